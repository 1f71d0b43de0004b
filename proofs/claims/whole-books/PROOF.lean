import PyProof.Rows.All
import Wide.All
import OpenK.AllK
import Wide.FinOn
import KE.KStateDown
import HandS.ForMost
import HandS.Exc
import HandS.ExcOwn
import HandS.TryOnly
import HandS.TryMany
import HandS.WordsExc
import HandS.Walk
import HandS.Deep
import HandS.Property
import HandS.Defaults
import HandS.Flow
import HandS.More
import HandS.Conv
import HandS.Evl
import HandS.IsInst
import HandS.Strs
import HandS.SortInts
import HandS.ListEq
import HandS.Style
import HandS.TupAny
import HandS.DictTup
import HandS.Lambda
import HandS.EndTab
import HandS.HeadWalk
import HandS.Head0
import HandS.Head1
import HandS.Head2
import HandS.HeadEnd
import HandS.HeadHook1
import HandS.HeadHook2
import HandS.HeadHook3
import HandS.HeadHook4
import PySem.Challenge.RW_surehouse_k02_whole_books
import KE.GoesMore
import KE.GoesEnum
import HandS.Star
import HandS.TupSets
set_option Elab.async false
set_option linter.all false
set_option maxRecDepth 100000
set_option maxHeartbeats 4000000
/-! The text by places; what the top has written (Tx); a def that keeps its promise, called by its name (Ok, pe_fn). -/
namespace KS
open PySem PySem.Spec PyProof.Rows L2
/-- the i-th statement of the linked text -/
def tp (i : Nat) : Stmt := PySem.Challenge.pw_surehouse_k02_whole_books.main.body.getD i (.Pass ⟨0, 0, 0, 0⟩)
/-- the j-th def of Giving's, of Book's body -/
def gv (j : Nat) : Stmt := inClass (tp 37) j
def bk (j : Nat) : Stmt := inClass (tp 49) j
/-- the global defs: name, place -/
def globs1 : List (Str × Nat) := [("is_whole", 19), ("is_name", 20), ("are_unlike", 21), ("are_names", 22), ("are_rows", 23), ("is_lane", 24), ("is_supply", 25), ("is_catalog", 26), ("need_catalog", 27), ("is_wish", 28),
  ("is_order", 29), ("need_order", 30), ("lane_of", 31), ("serves", 32), ("servers", 33), ("need_asked", 34), ("need_day", 35)]
def globs2 : List (Str × Nat) := [("given_all", 38), ("wishes_of", 43), ("ables_of", 44), ("rooms_of", 45), ("told_of", 46), ("kept", 47)]
def globs3 : List (Str × Nat) := [("_law_taken", 51), ("_law_pick", 52), ("_law_alike", 53), ("_law_is", 54), ("_law_catalog", 55), ("_law_order", 56), ("_law_wishes", 57), ("_law_fits", 58), ("_law_over", 59), ("_law_lots", 60), ("_law_able", 61), ("_law_plan", 62),
  ("_law_more", 63), ("_law_told", 64), ("law", 65)]
def globs : List (Str × Nat) := globs1 ++ globs2 ++ globs3
def gmeths : List (Str × Str × Nat) := [("__init__", "Giving.__init__", 0), ("ways_from", "Giving.ways_from", 1), ("shift", "Giving.shift", 2), ("serve", "Giving.serve", 3)]
def bmeths : List (Str × Str × Nat) := [("__init__", "Book.__init__", 0), ("sends", "Book.sends", 3), ("ask", "Book.ask", 4), ("cancel", "Book.cancel", 5), ("room_for", "Book.room_for", 6), ("most", "Book.most", 7), ("earliest", "Book.earliest", 8), ("curve", "Book.curve", 9)]
def bprops : List (Str × Str × Nat) := [("orders", "Book.orders", 1), ("refusals", "Book.refusals", 2)]
def frees : List Str := ["isinstance", "int", "bool", "str", "tuple", "list", "len", "all", "range", "enumerate", "sum", "sorted", "set"]
def cInts : List (Str × Int) := [("MOST_PLACES", 5), ("MOST_LANES", 20), ("MOST_SUPPLIES", 14), ("MOST_WISHES", 3), ("LAST_DAY", 60), ("REGIONS", 1), ("ITEMS", 2), ("LANES", 3), ("SUPPLIES", 4), ("MOST_ORDERS", 12)]
def cStrs : List (Str × Str) := [("SMALL", "abcdefghijklmnopqrstuvwxyz"), ("FIGURES", "0123456789"), ("PLAN", "plan"), ("CUT", "cut")]
def gattrs : List Str := ["rest", "needs", "able", "given", "had"]
def battrs : List Str := ["catalog", "promised", "refused"]
def excs : List Str := ["BadCatalog", "BadOrder", "BadNumber", "BadItem", "BadName"]
/-- raised, clause, caught -/
def exms : List (Str × Str × Bool) := [("BadItem", "BadItem", true), ("BadName", "BadItem", false), ("BadName", "BadName", true), ("BadNumber", "BadItem", false), ("BadNumber", "BadName", false), ("BadNumber", "BadNumber", true),
  ("BadOrder", "BadItem", false), ("BadOrder", "BadName", false), ("BadOrder", "BadNumber", false), ("BadOrder", "BadOrder", true)]
abbrev FnS (K : PySem.W.Frag) (x qual : Str) (st : Stmt) (f : Addr) (fd : FuncData) : Prop := FunD K x qual (defArgs st) (defBody st) (defScope st) [] [] f fd
/-- the class Giving, the class Book -/
def cG (K : PySem.W.Frag) : Addr := He.ga K "Giving"
def cB (K : PySem.W.Frag) : Addr := He.ga K "Book"
/-- what the top has written -/
structure Tx (K : PySem.W.Frag) (mg : Str → Option Value) : Prop where
  fn : ∀ p ∈ globs, ∃ fd, FnS K p.1 p.1 (tp p.2) (He.ga K p.1) fd ∧ mg p.1 = some (.ref (He.ga K p.1))
  gm : ∀ p ∈ gmeths, ∃ fd, FnS K p.1 p.2.1 (gv p.2.2) (He.ma K (cG K) p.1) fd ∧ Meth K (cG K) p.1 (He.ma K (cG K) p.1)
  bm : ∀ p ∈ bmeths, ∃ fd, FnS K p.1 p.2.1 (bk p.2.2) (He.ma K (cB K) p.1) fd ∧ Meth K (cB K) p.1 (He.ma K (cB K) p.1)
  bp : ∀ p ∈ bprops, ∃ g fd, FnS K p.1 p.2.1 (bk p.2.2) g fd ∧ PropOf K (cB K) p.1 (He.ma K (cB K) p.1) g
  free : ∀ x ∈ frees, mg x = none
  int : ∀ p ∈ cInts, ∃ t, mg p.1 = some (.int p.2 t)
  str : ∀ p ∈ cStrs, ∃ t, mg p.1 = some (.str p.2 t)
  gC : Cls K (cG K)
  bC : Cls K (cB K)
  gMk : Mk K (cG K) (He.ma K (cG K) "__init__")
  bMk : Mk K (cB K) (He.ma K (cB K) "__init__")
  gN : ∀ f ∈ gattrs, NoAttr K (cG K) f
  bN : ∀ f ∈ battrs, NoAttr K (cB K) f
  gG : mg "Giving" = some (.ref (cG K))
  bG : mg "Book" = some (.ref (cB K))
  exc : ∀ x ∈ excs, mg x = some (.ref (He.ga K x)) ∧ PySem.W.excIn K (He.ga K x) He.veBase "ValueError.__new__" = true ∧ PySem.W.keepIn K (.ref (He.ga K x)) = true ∧ PySem.W.subIn K (.ref (He.ga K x)) (.type "BaseException") = some true ∧
    PySem.W.typeIn K (.ref (He.ga K x)) = some (.type "type")
  exm : ∀ p ∈ exms, PySem.W.exmOne K (.ref (He.ga K p.1)) (.ref (He.ga K p.2.1)) = some p.2.2
end KS
set_option Elab.async false
set_option linter.all false
set_option maxRecDepth 100000
set_option maxHeartbeats 4000000
/-! enumerate of a tuple. -/
namespace KS
open PySem PySem.Spec PyProof.Rows L2
set_option maxHeartbeats 4000000 in
theorem meets_enumT {v : Value} {o : Obj} {H : Heap → Prop} (B : Begins v o H) :
    Meets (Builtin.«enumerate.__new__» ⟨[.type "enumerate", v], []⟩) (fun _ R st => H st.heap ∧
      R (.ok (.ret (.ref (st.heap.push o).objs.size))) { st with heap := (st.heap.push o).push { cls := .type "enumerate", data := .fields #[.none, .bool false, .ref st.heap.objs.size, rawInt 0, .none, .none] } }) :=
  .of_wp fun pr w A R st h => by
    obtain ⟨hp, g, d, tk, os⟩ := st
    obtain ⟨hH, h⟩ := h
    have hsub := sub_enumerate
    have qi : ∀ {A' : Around} {E : Value → Shared → Prop} {Q : Value → Shared → Prop}, Q (.ref hp.objs.size) ⟨hp.push o, g, d, tk, os⟩ → wpAny (model pr w) A' (pyIter v) Q E ⟨hp, g, d, tk, os⟩ :=
      fun q => B.iter pr w _ _ ⟨hp, g, d, tk, os⟩ _ hH q
    wp_walk using qi
    refine wpAny_stack_any fun z => wpAny_pure ?_
    split
    · rename_i c _ _ _ _ _
      cases (c == Value.type "enumerate") <;> (wp_walk using qi; exact ⟨_, rfl, h⟩)
    · wp_walk using qi
      exact ⟨_, rfl, h⟩
section
variable {prog : Program} {w : World} {A : Around} {E : Value → Shared → Prop} {s : Shared}
theorem call_enumT {v : Value} {o : Obj} {H : Heap → Prop} {Q : Value → Shared → Prop} (B : Begins v o H) (hH : H s.heap)
    (h : ∀ hp, IsEnum hp (s.heap.objs.size + 1) s.heap.objs.size 0 .none → hp.get? s.heap.objs.size = some o → (∀ b u, s.heap.get? b = some u → hp.get? b = some u) → Q (.ref (s.heap.objs.size + 1)) { s with heap := hp }) :
    wpAny (model prog w) A (call (.type "enumerate") [v]) Q E s := by
  refine callType_new F.called_enumerate (by decide) (F.typeCall_enumerate_1 _) (F.newCall_enumerate_1 _) (fun obj => F.args_object_init_2 obj _) F.entry_enumerate_new (meets_enumT B) ⟨hH, ?_⟩
  have hz : (s.heap.push o).objs.size = s.heap.objs.size + 1 := Heap.size_push ..
  show _ ∧ _
  rw [hz]
  have he : IsEnum ((s.heap.push o).push { cls := .type "enumerate", data := .fields #[.none, .bool false, .ref s.heap.objs.size, rawInt 0, .none, .none] }) (s.heap.objs.size + 1) s.heap.objs.size 0 .none := by
    have q := Heap.get?_push_size (s.heap.push o) (o := { cls := .type "enumerate", data := .fields #[.none, .bool false, .ref s.heap.objs.size, rawInt 0, .none, .none] }) rfl
    rw [hz] at q
    exact q
  exact ⟨⟨_, he, rfl⟩, h _ he (Heap.get?_push_of_some _ (Heap.get?_push_size _ B.free)) fun b u x => Heap.get?_push_of_some _ (Heap.get?_push_of_some _ x)⟩
end
/-- the tuple at a, each item in a new pair -/
def Iten (K : PySem.W.Frag) (a : Addr) : It :=
  ⟨fun i H => ∃ (xs : List V) (x : V), SqT K H a xs ∧ xs[i]? = some x, fun i H v H' => ∃ T x, v = .ref T ∧ H T = none ∧ H' = upd H T (.tup [.int (i : Nat), x]) ∧ ∀ xs, SqT K H a xs → xs[i]? = some x, fun i H => ∃ xs : List V, SqT K H a xs ∧ xs.length ≤ i⟩
theorem turn_enumT {P : Program} {w : World} {K : PySem.W.Frag} {elts : List Expr} {kk : Nat} {tpos : Pos} (a e it : Addr) :
    Turn P w K (.Tuple elts kk tpos) (Iten K a) [e, it] e (fun i h => (∃ old, IsEnum h e it ((i : Nat) : Int) old) ∧ h.IsTupleIter it a i ∧ e ≠ it) where
  mem := by simp
  obj := fun i h st b hb => by
    obtain ⟨⟨old, he⟩, ⟨o, ho, hc, hd⟩, _⟩ := st
    have e' : b = e ∨ b = it := by simpa using hb
    rcases e' with z | z
    · rw [z]
      exact ⟨_, he, fun v q => nomatch q⟩
    · rw [z]
      exact ⟨o, ho, fun v q => by rw [hd] at q; cases q⟩
  keep := fun i h h' st k => by
    obtain ⟨⟨old, he⟩, hi, hne⟩ := st
    exact ⟨⟨old, k e (by simp) _ he⟩, hi.at fun o q => k it (by simp) o q, hne⟩
  item := by
    intro X hP hw hK hc i pins s σ H E I hf st hg
    subst hP hw hK
    obtain ⟨⟨old, he⟩, hit, hne⟩ := st
    obtain ⟨xs, x, hq, hx⟩ := hg
    obtain ⟨its, rv, p, hz⟩ := I.tuple hq
    obtain ⟨u, hu, ru⟩ := rv.get hx
    have hel : e < s.heap.objs.size := Heap.lt_size he
    have hil : it < s.heap.objs.size := by
      obtain ⟨_, q, _⟩ := hit
      exact Heap.lt_size q
    have hae : a ≠ e := fun z => by
      obtain ⟨o, ho, _, n, hd⟩ := p
      rw [z, he] at ho
      cases ho
      cases hd
    have hai : a ≠ it := fun z => by
      obtain ⟨o, ho, _, n, hd⟩ := p
      obtain ⟨o2, ho2, _, hd2⟩ := hit
      rw [z, ho2] at ho
      cases ho
      rw [hd2] at hd
      cases hd
    have D := Draws.tuple (prog := X.prog) (w := X.w) (A := X.A.in1) (show X.A.in1.handled = none from I.ok.hd hc) it a hai its.toArray
    have hlt : i < its.toArray.size := by
      have q := (List.getElem?_eq_some_iff.mp hu).1
      simpa using q
    refine wpAny_pyNext_enum_itemD D he ⟨hit, show s.heap.IsTuple a its.toArray from p⟩ hlt hne (by simp; exact ⟨hne, Ne.symm hae⟩) fun y h' tk hy ho st' hT hsz hk => ?_
    have ey : y = u := by
      have q : its.toArray[i]? = some u := by simpa using hu
      rw [hy] at q
      exact Option.some.inj q
    subst ey
    refine ⟨_, rfl, wpAny_letOwnedTupleGo_enum (s := { s with heap := h', toks := tk + 1 }) ho fun h'' he' sb => ?_⟩
    have hT2 : h''.get? s.heap.objs.size = some { cls := .type "tuple", data := .seq #[.int i tk, y] } := (sb.2 _ (Nat.ne_of_gt hel)).trans hT
    have new : ObjOk X.prog X.w (upd H s.heap.objs.size (.tup [.int (i : Nat), x])) h'' s.heap.objs.size (.tup [.int (i : Nat), x]) :=
      ⟨by show 2 ≤ sizeLine; decide, [.int i tk, y], .cons ⟨_, rfl⟩ (.cons ru .nil), ⟨_, hT2, rfl, _, rfl⟩⟩
    have hI1 : Inv X pins σ (upd H s.heap.objs.size (.tup [.int (i : Nat), x])) { s with heap := h'', toks := tk + 1 } :=
      I.turnedNew (ch := [e, it]) (fun b ob hb q => (sb.2 b (fun z => hb (by simp [z]))).trans (hk b ob (fun z => hb (by simp [z])) (fun z => hb (by simp [z])) q)) hf (Nat.le_refl _) new
    refine ⟨.ref s.heap.objs.size, _, hI1, rfl, ⟨_, x, rfl, I.hok.fresh (Nat.le_refl _), rfl, fun ys hy' => by rw [I.tuple_inj hy' hq]; exact hx⟩, ⟨⟨y, ?_⟩, st'.1.at fun o q => (sb.2 it (Ne.symm hne)).trans q, hne⟩, fun b hb => ?_⟩
    · have e1 : ((i + 1 : Nat) : Int) = (i : Int) + 1 := by omega
      rw [e1]
      exact he'
    · have hb' : b < s.heap.objs.size := by
        have e' : b = e ∨ b = it := by simpa using hb
        rcases e' with z | z <;> (rw [z]; assumption)
      rw [upd_ne (Nat.ne_of_lt hb')]
      exact (hf b hb).1
  done := by
    intro X hP hw hK hc i pins s σ H E I hf st hg
    subst hP hw hK
    obtain ⟨⟨old, he⟩, hit, hne⟩ := st
    obtain ⟨xs, hq, hx⟩ := hg
    obtain ⟨its, rv, p, hz⟩ := I.tuple hq
    have hl := rv.length
    have hai : a ≠ it := fun z => by
      obtain ⟨o, ho, _, n, hd⟩ := p
      obtain ⟨o2, ho2, _, hd2⟩ := hit
      rw [z, ho2] at ho
      cases ho
      rw [hd2] at hd
      cases hd
    obtain ⟨f0, f1, f2, f3, f4, f5⟩ := hf it (by simp)
    have D : Draws X.prog X.w X.A.in1 it [it, a] i (fun _ _ => True) (fun j h => j = i ∧ h.IsTupleIter it a i ∧ h.IsTuple a its.toArray) := by
      refine ⟨fun j h st => ?_, fun j h h' st k => ?_, fun j s Q E hj st => ?_, fun s Q E st hE => ?_⟩
      · obtain ⟨_, ⟨o, ho, _⟩, _⟩ := st
        exact ⟨o, ho⟩
      · exact ⟨st.1, st.2.1.at fun o q => k it (by simp) o q, st.2.2.at fun o q => k a (by simp) o q⟩
      · exact absurd st.1 (Nat.ne_of_lt hj)
      · exact wpAny_nextOf_tuple_end (show X.A.in1.handled = none from I.ok.hd hc) st.2.1 st.2.2 (by simp; omega) hE
    exact wpAny_pyNext_enum_endD D he ⟨rfl, hit, show s.heap.IsTuple a its.toArray from p⟩ fun h' eb => ⟨rfl, I.turned (t' := s.toks) (fun b o hb q => eb b o hb q) f0 f1 f3 f4 f5⟩
  self := fun A i s Q E st h => by
    obtain ⟨⟨_, he⟩, _⟩ := st
    exact wpAny_pyIter_enum he h
def iEnT (K : PySem.W.Frag) (ta : TA) : TI := fun σ H R => ta σ H fun vs H1 => ∃ a xs, vs = [.ref a] ∧ SqT K H1 a xs ∧ R (Iten K a) H1
theorem pi_enumT {X : Cx} {e : Expr} {ta : TA} {p pos tpos : Pos} {elts : List Expr} {kk : Nat} (hg : Gl X "enumerate") (hm : X.mg "enumerate" = none) (ha : PA X [e] ta) (hs : starEach [e] X.env = [(false, eval e X.env)] := by rfl) :
    PI X (.Tuple elts kk tpos) (.Call (.Name "enumerate" p) [e] [] pos) (iEnT X.K ta) := by
  refine ⟨fun pins s σ H R I h => ?_⟩
  refine Call_ (ld_blt I hg hm boot_enumerate (PyProof.Rows.callWith_type1 (thn (ha.run pos pins s σ H _ I h) fun us s1 ⟨vs, H1, hI1, r1, q1⟩ => ?_) hs rfl))
  obtain ⟨a, xs, ex, hq, q⟩ := q1
  subst ex
  cases r1 with
  | cons r rr =>
    cases rr
    cases r
    obtain ⟨its, rv, p', hz⟩ := hI1.tuple hq
    refine call_enumT (begins_tuple a its.toArray) (show s1.heap.IsTuple a its.toArray from p') fun h' he hit hk => wpAny_pyIter_enum he ?_
    have hI2 : Inv X pins σ H1 { s1 with heap := h' } := hI1.kept (t' := s1.toks) hk
    refine ⟨s1.heap.objs.size + 1, [s1.heap.objs.size + 1, s1.heap.objs.size], _, _, H1, rfl, hI2, turn_enumT a (s1.heap.objs.size + 1) s1.heap.objs.size, ⟨⟨.none, he⟩, ⟨_, hit, rfl, rfl⟩, Nat.succ_ne_self _⟩, fun b hb => ?_, q⟩
    have hle : s1.heap.objs.size ≤ b := by
      have e' : b = s1.heap.objs.size + 1 ∨ b = s1.heap.objs.size := by simpa using hb
      rcases e' with z | z
      · rw [z]
        exact Nat.le_add_right _ _
      · rw [z]
        exact Nat.le_refl _
    exact hI1.fpOk hle (hI1.hok.fresh hle)
theorem walk_enumT {K : PySem.W.Frag} {a : Addr} {xs : List V} : Walk (Iten K a) xs.length (fun H => SqT K H a xs) (YPair (fun i => some (.int (i : Nat))) (fun i => xs[i]?)) := by
  refine ⟨fun i _ hi q => ⟨xs, xs[i], q, by simp [hi]⟩, fun _ q => ⟨xs, q, Nat.le_refl _⟩, fun i H v H' _ q y => ?_⟩
  obtain ⟨T, x, g1, g2, g3, g4⟩ := y
  exact ⟨T, .int (i : Nat), x, g1, g2, g3, rfl, g4 xs q⟩
end KS
set_option Elab.async false
set_option linter.all false
set_option maxRecDepth 100000
set_option maxHeartbeats 4000000
/-! Rules: a def called by its name, a method; constants of the module; data. -/
namespace KS
open PySem PySem.Spec PyProof.Rows L2
/-! ### a def that keeps its promise, by its name -/
section
variable (P : Program) (w : World) (K : PySem.W.Frag) (mg : Str → Option Value) (base : Heap)
/-- the module's name x is a def that keeps sp -/
structure Ok (CX : CXT) (k : Nat) (x : Str) (ps : List Str) (sp : Sp) : Prop where
  ex : ∃ f fd, FnOk P w K mg base CX k f fd ps sp ∧ mg x = some (.ref f) ∧ PySem.W.keepIn K (.ref f) = true ∧ Binds K fd ps []
/-- the class at C has the method m that keeps sp -/
structure OkM (CX : CXT) (k : Nat) (C : Addr) (m : Str) (ps : List Str) (sp : Sp) : Prop where
  cls : Cls K C
  ex : ∃ f fd, FnOk P w K mg base CX k f fd ps sp ∧ Meth K C m f ∧ Binds K fd ps []
end
section
variable {X : Cx} {CX : CXT} {k : Nat} {C : Addr} {ps : List Str} {sp : Sp} {E : XK} {x m : Str} {p pos apos : Pos} {e o : Expr} {es : List Expr} {ta : TE} {t : TA}
theorem pe_fn (D : Ok X.prog X.w X.K X.mg X.base CX k x ps sp) (hr : Room k X.A) (hx : Passes CX X E) (ha : PA X (e :: es) t) (hg : Gl X x := by rfl) (hdb : (x == ("__debug__" : Str)) = false := by decide)
    (he : starEach (e :: es) X.env = (false, eval e X.env) :: starEach es X.env := by rfl) (hpl : (backTo pos (starEach es X.env)).any (·.1) = false := by rfl) : PE X (.Call (.Name x p) (e :: es) [] pos) (tCall sp [] E t) := by
  obtain ⟨f, fd, F, hm, hk, hb⟩ := D.ex
  exact pe_call F hr hg hm hk hb .nil hx ha hdb he hpl
theorem pe_mth {pl : Sem Bool} (D : OkM X.prog X.w X.K X.mg X.base CX k C m ps sp) (hr : Room k X.A) (hx : Passes CX X E) (ho : PE X o ta) (ha : PA X (e :: es) t)
    (hst : starEach (e :: es) X.env = (false, eval e X.env) :: starEach es X.env := by rfl) (hpl : (backTo pos (starEach es X.env)).any (·.1) = false := by rfl)
    (ht : eval (.Call (.Attribute o m apos) (e :: es) [] pos) X.env = (do
      let ov ← eval o X.env
      standAt apos.atName
      let (g, first) ← holding [ov] (getMethod ov m pl)
      callWith pos g first (backTo pos (starEach (e :: es) X.env)) (backToKw pos (keywordEach [] X.env))) := by rfl) :
    PE X (.Call (.Attribute o m apos) (e :: es) [] pos) (tMeth C m sp [] E ta t) := by
  obtain ⟨f, fd, F, hm, hb⟩ := D.ex
  exact pe_meth ho D.cls hm F hr hb .nil hx ha hst hpl ht
theorem pe_mth0 {pl : Sem Bool} (D : OkM X.prog X.w X.K X.mg X.base CX k C m ps sp) (hr : Room k X.A) (hx : Passes CX X E) (ho : PE X o ta)
    (ht : eval (.Call (.Attribute o m apos) [] [] pos) X.env = (do
      let ov ← eval o X.env
      standAt apos.atName
      let (g, first) ← holding [ov] (getMethod ov m pl)
      callWith pos g first [] (backToKw pos (keywordEach [] X.env))) := by rfl) :
    PE X (.Call (.Attribute o m apos) [] [] pos) (tMeth C m sp [] E ta tNil) := by
  obtain ⟨f, fd, F, hm, hb⟩ := D.ex
  exact pe_meth0 ho D.cls hm F hr hb .nil hx ht
/-- constants of the module -/
theorem pe_ci {x : Str} {i : Int} {pos : Pos} (T : Tx X.K X.mg) (h : (x, i) ∈ cInts) (hg : Gl X x := by rfl) (hd : (x == ("__debug__" : Str)) = false := by decide) : PE X (.Name x pos) (tC (.int i)) := by
  obtain ⟨t, e⟩ := T.int _ h
  exact pe_glob hg e ⟨t, rfl⟩ hd
theorem pe_cs {x z : Str} {pos : Pos} (T : Tx X.K X.mg) (h : (x, z) ∈ cStrs) (hg : Gl X x := by rfl) (hd : (x == ("__debug__" : Str)) = false := by decide) : PE X (.Name x pos) (tC (.str z)) := by
  obtain ⟨t, e⟩ := T.str _ h
  exact pe_glob hg e ⟨t, rfl⟩ hd
/-- an own exception, made with a text -/
theorem pmk_x {x m : Str} {j : Nat} {p p2 pos : Pos} (T : Tx X.K X.mg) (h : x ∈ excs) (hg : Gl X x := by rfl) (hdb : (x == ("__debug__" : Str)) = false := by decide) :
    PMk X (.Call (.Name x p) [.Constant (.str m) j p2] [] pos) (fun _ H Q => Q (.ref (He.ga X.K x)) none H) := by
  obtain ⟨g, q1, q2, q3, q4⟩ := T.exc x h
  exact pmk_own PySem.F.excBase_ValueError q1 g q2 (raises_own q3 q4) hg hdb
theorem hu65 {A : Around} {k : Nat} (hr : Room k A) : A.units + 65 < cLine := Nat.lt_of_le_of_lt (Nat.add_le_add_left (by omega : 65 ≤ 16 * k + 200) _) (by have q := hr.un; omega)
/-- xs[i] op= e, xs a list, 0 ≤ i -/
def rGetL : V → V → Hp → VK → Prop := fun o i H Q => ∃ p xs j v, o = .ref p ∧ i = .int j ∧ H p = some (.lst xs) ∧ 0 ≤ j ∧ j < 2 ^ 63 ∧ xs[j.toNat]? = some v ∧ Q v H
theorem get_list : PGet X rGetL := by
  intro pins s σ H o i ov iv Q I ro ri h
  obtain ⟨p, xs, j, v, rfl, rfl, hp, h0, hf, hv, q⟩ := h
  cases ro
  obtain ⟨t, rfl⟩ := ri
  obtain ⟨its, r, pl, hz⟩ := I.list (SqL.of hp)
  obtain ⟨w, ew, rw'⟩ := r.get hv
  exact wpAny_getItem_list pl.isList h0 hf (by simpa using ew) ⟨v, H, I, rw', q⟩
theorem ps_augL {o i e : Expr} {to ti te : TE} {tip : TIp} {op : Operator} {tpos pos : Pos} (ho : PE X o to) (hi : PE X i ti) (he : PE X e te) (hp : PIp X op tip)
    (ha : ∀ ov iv new, augStore i ov iv new = (do holding [new, ov, iv] (setItem ov iv new); release [new, ov, iv] []; pure .next) := by intros; rfl) : PS X (.AugAssign (.Subscript o i tpos) op e pos) (tAugS to ti te rGetL tip rSetL) :=
  ps_augS ho hi get_list he hp set_list ha
end
/-! ### a def's body -/
section
variable {P : Program} {w : World} {K : PySem.W.Frag} {mg : Str → Option Value} {base : Heap}
theorem Ok.mk_ {x : Str} {i : Nat} {N ps : List Str} {k : Nat} {sp : Sp} (T : Tx K mg) (hp : (x, i) ∈ globs) (S : FnScope N ps (defScope (tp i)))
    (hb : ∀ (kV doc pm : Value) (an : Option Addr) (cdv ct : Value) (us : List Value), us.length = ps.length → bindArgs (PySem.W.fnOf x x (defArgs (tp i)) (defBody (tp i)) (defScope (tp i)) .none kV doc pm an cdv ct) ⟨us, []⟩ = pure (ps.zip us))
    (len : ∀ vs H Q E, sp vs H Q E → vs.length = ps.length)
    (hbody : ∀ (f : Addr) (cdv : Value) (A : Around) (outer : List Env) (s : Shared) (H : Hp) (vs : List V) (Q : VK) (E : XK), Room k (A.deeper (envOfC x (defScope (tp i)) s.heap.objs.size f cdv)) → sp vs H Q E →
      ∃ t, PSs (cxOf CX0 P w K mg base N x (defScope (tp i)) f cdv A outer s H E).nox (defBody (tp i)) t ∧ t { nx := fun _ H' => Q .non H', rt := Q } (start N vs) H) : Ok P w K mg base CX0 (k + 1) x ps sp := by
  obtain ⟨fd, F, g⟩ := T.fn _ hp
  refine ⟨_, fd, F.ok S len fun cdv A outer s H vs Q E hr h => ?_, g, F.kp, F.bindsN hb⟩
  obtain ⟨t, a, b⟩ := hbody _ cdv A outer s H vs Q E hr h
  exact ⟨t, a.nox, b⟩
/-- .. that may raise -/
theorem Ok.mkX {x : Str} {i : Nat} {N ps : List Str} {k : Nat} {sp : Sp} (T : Tx K mg) (hp : (x, i) ∈ globs) (S : FnScope N ps (defScope (tp i)))
    (hb : ∀ (kV doc pm : Value) (an : Option Addr) (cdv ct : Value) (us : List Value), us.length = ps.length → bindArgs (PySem.W.fnOf x x (defArgs (tp i)) (defBody (tp i)) (defScope (tp i)) .none kV doc pm an cdv ct) ⟨us, []⟩ = pure (ps.zip us))
    (len : ∀ vs H Q E, sp vs H Q E → vs.length = ps.length)
    (hbody : ∀ (f : Addr) (cdv : Value) (A : Around) (outer : List Env) (s : Shared) (H : Hp) (vs : List V) (Q : VK) (E : XK), Room k (A.deeper (envOfC x (defScope (tp i)) s.heap.objs.size f cdv)) → sp vs H Q E →
      ∃ t, PSs (cxOf (L2.CX P w) P w K mg base N x (defScope (tp i)) f cdv A outer s H E) (defBody (tp i)) t ∧ t { nx := fun _ H' => Q .non H', rt := Q } (start N vs) H) : Ok P w K mg base (L2.CX P w) (k + 1) x ps sp := by
  obtain ⟨fd, F, g⟩ := T.fn _ hp
  exact ⟨_, fd, F.ok S len fun cdv A outer s H vs Q E hr h => hbody _ cdv A outer s H vs Q E hr h, g, F.kp, F.bindsN hb⟩
theorem Ok.imp {CX : CXT} {k : Nat} {x : Str} {ps : List Str} {sp sp' : Sp} (D : Ok P w K mg base CX k x ps sp) (h : ∀ vs H Q E, sp' vs H Q E → sp vs H Q E) : Ok P w K mg base CX k x ps sp' := by
  obtain ⟨f, fd, F, r⟩ := D.ex
  exact ⟨f, fd, F.imp h, r⟩
end
/-! ### data: what does not hang on what changes -/
end KS
namespace L2
open PySem PySem.Spec PyProof.Rows
section
variable {K : PySem.W.Frag} {H H' : Hp}
theorem same_t {a : Addr} {xs : List V} (e : Same H H') (h : SqT K H a xs) : SqT K H' a xs := by
  rcases h with (h | ⟨o, h⟩) | h
  · exact .inl (.inl (e _ _ h))
  · exact .inl (.inr ⟨o, e _ _ h⟩)
  · exact .inr h
mutual
theorem Dp.same (e : Same H H') : ∀ {d : PyData} {v : V}, Dp K H v d → Dp K H' v d
  | .none, _, h => by cases h; exact .non
  | .bool b, _, h => by cases h; exact .bl b
  | .int i, _, h => by cases h; exact .int i
  | .str x, _, h => by cases h; exact .str x
  | .list ds, _, h => by
    cases h with
    | lst hs ha => exact .lst (e.seq hs) (DpAll.same e ha)
  | .tuple ds, _, h => by
    cases h with
    | tup hs ha => exact .tup (same_t e hs) (DpAll.same e ha)
  | .dict _, _, h => by cases h
theorem DpAll.same (e : Same H H') : ∀ {ds : List PyData} {vs : List V}, DpAll K H vs ds → DpAll K H' vs ds
  | [], _, h => by cases h; exact .nil
  | d :: ds, _, h => by
    cases h with
    | cons h1 h2 => exact .cons (Dp.same e h1) (DpAll.same e h2)
end
theorem Dp.tup_inv {v : V} {ds : List PyData} (h : Dp K H v (.tuple ds)) : ∃ a xs, v = .ref a ∧ SqT K H a xs ∧ DpAll K H xs ds := by
  cases h with
  | tup hs ha => exact ⟨_, _, rfl, hs, ha⟩
theorem DpAll.get : ∀ {vs : List V} {ds : List PyData} {i : Nat} {d : PyData}, DpAll K H vs ds → ds[i]? = some d → ∃ v, vs[i]? = some v ∧ Dp K H v d
  | _, _, i, _, .nil, e => by simp at e
  | _, _, 0, _, .cons h _, e => by
    cases e
    exact ⟨_, rfl, h⟩
  | _, _, i + 1, _, .cons _ h, e => DpAll.get (i := i) h e
theorem DpAll.get' : ∀ {vs : List V} {ds : List PyData} {i : Nat} {v : V}, DpAll K H vs ds → vs[i]? = some v → ∃ d, ds[i]? = some d ∧ Dp K H v d
  | _, _, i, _, .nil, e => by simp at e
  | _, _, 0, _, .cons h _, e => by
    cases e
    exact ⟨_, rfl, h⟩
  | _, _, i + 1, _, .cons _ h, e => DpAll.get' (i := i) h e
theorem DpAll.length : ∀ {vs : List V} {ds : List PyData}, DpAll K H vs ds → vs.length = ds.length
  | _, _, .nil => rfl
  | _, _, .cons _ h => by rw [List.length_cons, List.length_cons, DpAll.length h]
theorem DpAll.append : ∀ {vs us : List V} {ds es : List PyData}, DpAll K H vs ds → DpAll K H us es → DpAll K H (vs ++ us) (ds ++ es)
  | _, _, _, _, .nil, h => h
  | _, _, _, _, .cons h t, q => .cons h (DpAll.append t q)
theorem DpAll.strs : ∀ {vs : List V} {ss : List Str}, DpAll K H vs (ss.map .str) → vs = ss.map V.str
  | _, [], h => by
    cases h
    rfl
  | _, s :: ss, h => by
    cases h with
    | cons h1 h2 =>
      cases h1
      rw [DpAll.strs h2]
      rfl
theorem DpAll.ofStrs : ∀ (ss : List Str), DpAll K H (ss.map V.str) (ss.map .str)
  | [] => .nil
  | s :: ss => .cons (.str s) (DpAll.ofStrs ss)
theorem DpAll.ofInts : ∀ (ss : List Int), DpAll K H (ss.map V.int) (ss.map .int)
  | [] => .nil
  | s :: ss => .cons (.int s) (DpAll.ofInts ss)
end
end L2
namespace KS
open PySem PySem.Spec PyProof.Rows L2
section
variable {K : PySem.W.Frag} {H H' : Hp}
theorem same_new {p : Addr} {o : HO} (h : H p = none) : Same H (upd H p o) := fun a u e => by
  rw [upd_ne (ne_of_none e h)]
  exact e
/-- an object that H does not know may change -/
theorem same_mut {p : Addr} {o : HO} (e : Same H H') (h : H p = none) : Same H (upd H' p o) := fun a u ha => by
  rw [upd_ne (ne_of_none ha h)]
  exact e a u ha
theorem same_new2 {p : Addr} {o : HO} (e : Same H H') (h : H' p = none) : Same H (upd H' p o) := e.trans (same_new h)
end
end KS
set_option Elab.async false
set_option linter.all false
set_option maxRecDepth 100000
set_option maxHeartbeats 4000000
/-! The data: catalogs, orders, wishes as plain Lean; what they are in the heap; the plain functions that the program's small defs compute. -/
namespace KS
open PySem PySem.Spec PyProof.Rows L2
structure Lane where
  h : Str
  r : Str
  lo : Int
  hi : Int
  pr : Int
structure Sup where
  n : Str
  h : Str
  it : Str
  day : Int
  cnt : Int
structure Cat where
  hs : List Str
  rs : List Str
  its : List Str
  lanes : List Lane
  sups : List Sup
structure Wish where
  its : List Str
  cnt : Int
structure Order where
  n : Str
  r : Str
  ws : List Wish
  by_ : Int
  wo : Int
/-- a wish of an order: the order's name, the place, items, region, count, day -/
structure FW where
  n : Str
  at_ : Nat
  its : List Str
  r : Str
  cnt : Int
  by_ : Int
def Lane.d (l : Lane) : PyData := .tuple [.str l.h, .str l.r, .int l.lo, .int l.hi, .int l.pr]
def Sup.d (s : Sup) : PyData := .tuple [.str s.n, .str s.h, .str s.it, .int s.day, .int s.cnt]
def strsD (l : List Str) : PyData := .tuple (l.map .str)
def Cat.d (c : Cat) : PyData := .tuple [strsD c.hs, strsD c.rs, strsD c.its, .tuple (c.lanes.map Lane.d), .tuple (c.sups.map Sup.d)]
def Wish.d (w : Wish) : PyData := .tuple [strsD w.its, .int w.cnt]
def Order.d (o : Order) : PyData := .tuple [.str o.n, .str o.r, .tuple (o.ws.map Wish.d), .int o.by_, .int o.wo]
def FW.d (f : FW) : PyData := .tuple [.str f.n, .int (f.at_ : Nat), strsD f.its, .str f.r, .int f.cnt, .int f.by_]
/-- a name: 1 to 8 signs, small letters and figures, a letter first -/
def SMALL : Str := "abcdefghijklmnopqrstuvwxyz"
def FIGURES : Str := "0123456789"
def nameOk (s : Str) : Bool := decide (1 ≤ s.cps.toList.length) && decide (s.cps.toList.length ≤ 8) && (match s.cps.toList.head? with
  | some c => decide (c ∈ SMALL.cps.toList)
  | none => false) && s.cps.toList.all fun c => decide (c ∈ SMALL.cps.toList) || decide (c ∈ FIGURES.cps.toList)
def namesOk (l : List Str) (n : Nat) : Prop := 1 ≤ l.length ∧ l.length ≤ n ∧ (∀ s ∈ l, nameOk s = true) ∧ l.Nodup
structure Lane.Ok (c : Cat) (l : Lane) : Prop where
  hn : nameOk l.h = true
  rn : nameOk l.r = true
  h : l.h ∈ c.hs
  r : l.r ∈ c.rs
  lo : 0 ≤ l.lo ∧ l.lo ≤ l.hi
  hi : l.hi ≤ 9
  pr : 0 ≤ l.pr ∧ l.pr ≤ 99
structure Sup.Ok (c : Cat) (s : Sup) : Prop where
  nn : nameOk s.n = true
  hn : nameOk s.h = true
  itn : nameOk s.it = true
  h : s.h ∈ c.hs
  it : s.it ∈ c.its
  day : 0 ≤ s.day ∧ s.day ≤ 60
  cnt : 0 ≤ s.cnt ∧ s.cnt ≤ 99
structure Cat.Ok (c : Cat) : Prop where
  hs : namesOk c.hs 5
  rs : namesOk c.rs 5
  its : namesOk c.its 5
  ln : c.lanes.length ≤ 20
  sn : c.sups.length ≤ 14
  lanes : ∀ l ∈ c.lanes, l.Ok c
  sups : ∀ s ∈ c.sups, s.Ok c
  lnd : (c.lanes.map fun l => (l.h, l.r)).Nodup
  snd : (c.sups.map Sup.n).Nodup
structure Wish.Ok (c : Cat) (w : Wish) : Prop where
  names : namesOk w.its 3
  its : ∀ s ∈ w.its, s ∈ c.its
  cnt : 1 ≤ w.cnt ∧ w.cnt ≤ 99
structure Order.Ok (c : Cat) (o : Order) : Prop where
  nn : nameOk o.n = true
  rn : nameOk o.r = true
  r : o.r ∈ c.rs
  wn : 1 ≤ o.ws.length ∧ o.ws.length ≤ 3
  ws : ∀ w ∈ o.ws, w.Ok c
  by_ : 0 ≤ o.by_ ∧ o.by_ ≤ 60
  wo : 0 ≤ o.wo ∧ o.wo ≤ 999
/-! ### what the small defs compute -/
def laneOf (c : Cat) (h r : Str) : Option Lane := c.lanes.find? fun l => decide (l.h = h) && decide (l.r = r)
def serves (c : Cat) (s : Sup) (its : List Str) (r : Str) (by_ : Int) : Bool := decide (s.it ∈ its) && (match laneOf c s.h r with
  | none => false
  | some l => decide (s.day + l.hi ≤ by_))
/-- the places of the supplies that can serve -/
def servers (c : Cat) (its : List Str) (r : Str) (by_ : Int) : List Nat := (List.range c.sups.length).filter fun i => match c.sups[i]? with
  | some s => serves c s its r by_
  | none => false
def wishesOf1 (o : Order) : List FW := o.ws.mapIdx fun i w => ⟨o.n, i, w.its, o.r, w.cnt, o.by_⟩
def wishesOf (os : List Order) : List FW := os.flatMap wishesOf1
def ablesOf (c : Cat) (ws : List FW) : List (List Nat) := ws.map fun f => servers c f.its f.r f.by_
def roomsOf (c : Cat) : List Int := c.sups.map Sup.cnt
end KS
set_option Elab.async false
set_option linter.all false
set_option maxRecDepth 100000
set_option maxHeartbeats 4000000
/-! Comprehensions that change nothing that is known; the walks of what they walk. -/
namespace KS
open PySem PySem.Spec PyProof.Rows L2
theorem iteD {c A B : Prop} [Decidable c] (h : c) (k : A) : if decide c = true then A else B := by
  rw [if_pos (decide_eq_true h)]
  exact k
theorem iteDn {c A B : Prop} [Decidable c] (h : ¬ c) (k : B) : if decide c = true then A else B := by
  rw [if_neg (by rw [decide_eq_false h]; exact Bool.false_ne_true)]
  exact k
theorem iteE {b : Bool} {A B : Prop} (e : b = true) (k : A) : if b = true then A else B := by
  rw [if_pos e]
  exact k
theorem iteEf {b : Bool} {A B : Prop} (e : b = false) (k : B) : if b = true then A else B := by
  rw [if_neg (by rw [e]; exact Bool.false_ne_true)]
  exact k
theorem range_fm_succ {α : Type} (o : Nat → Option α) (i : Nat) : (List.range (i + 1)).filterMap o = (List.range i).filterMap o ++ (o i).toList := by
  rw [List.range_succ, List.filterMap_append]
  cases e : o i with
  | none => simp [e]
  | some y => simp [e]
theorem range_fm_len {α : Type} (o : Nat → Option α) (i : Nat) : ((List.range i).filterMap o).length ≤ i := by
  have q := List.length_filterMap_le o (List.range i)
  rw [List.length_range] at q
  exact q
/-- a comprehension: o i tells whether the i-th item is taken, and what comes of it -/
theorem lc_gen {J : It} {n : Nat} {G : Hp → Prop} {Y : Nat → Hp → V → Hp → Prop} {g : TG} {tt : TT} {te : TE} {vs : List Nat} {σ : L2.St} {H1 : Hp} {Qd : Addr → Hp → Prop} (w : Walk J n G Y) (o : Nat → Option V) (hn : n ≤ 1000) (hG : ∀ H, Same H1 H → G H)
    (hs : ∀ (i : Nat) (x : V) (H H' : Hp) (Rn : Hp → Prop) (Ry : V → Hp → Prop), i < n → Same H1 H → Y i H x H' → (o i = none → ∀ H4, Same H H4 → Rn H4) → (∀ y, o i = some y → ∀ H4, Same H H4 → Ry y H4) →
      g x (wipe σ vs) H' fun σ2 H2 => wipe σ2 vs = wipe σ vs ∧ tt σ2 H2 fun b H3 => if b = true then te σ2 H3 Ry else Rn H3)
    (hd : ∀ D H, H1 D = none → Same H1 H → H D = some (.lst ((List.range n).filterMap o)) → Qd D H) :
    ∀ D, H1 D = none → ∃ W : Nat → Nat → Hp → Prop, (∃ m, W 0 m (upd H1 D (.lst []))) ∧ ∀ i m H, W i m H →
      (J.stop i H ∧ Qd D H) ∨ (J.go i H ∧ ∃ Nx : Hp → Prop, (∀ H', Nx H' → ∃ m', m' < m ∧ W (i + 1) m' H') ∧ ∀ x H', J.yld i H x H' → g x (wipe σ vs) H' fun σ2 H2 => wipe σ2 vs = wipe σ vs ∧ tt σ2 H2 fun b H3 =>
        if b = true then te σ2 H3 fun y H4 => ∃ acc, H4 D = some (.lst acc) ∧ acc.length < sizeLine ∧ Nx (upd H4 D (.lst (acc ++ [y]))) else Nx H3) := by
  intro D hD
  refine lc_it w (Qd := Qd D) (fun i H => Same H1 H ∧ H D = some (.lst ((List.range i).filterMap o))) ⟨same_new hD, upd_same⟩ (fun i H _ p => hG H p.1) (fun i x H H' hi p hY => ?_) (fun H p => hd D H hD p.1 p.2)
  refine hs i x H H' _ _ hi p.1 hY (fun ho H4 s4 => ?_) (fun y ho H4 s4 => ?_)
  · refine ⟨p.1.trans s4, ?_⟩
    rw [s4 _ _ p.2, range_fm_succ, ho]
    simp
  · refine ⟨_, s4 _ _ p.2, ?_, same_mut (p.1.trans s4) hD, ?_⟩
    · exact Nat.lt_of_le_of_lt (Nat.le_trans (range_fm_len o i) (by omega : i ≤ 1000)) (by decide)
    · rw [upd_same, range_fm_succ, ho]
      rfl
theorem fm_some {α : Type} (f : Nat → α) (n : Nat) : (List.range n).filterMap (fun i => some (f i)) = (List.range n).map f := List.filterMap_eq_map (f := f) ▸ rfl
theorem fm_bl (f : Nat → Bool) (n : Nat) : (List.range n).filterMap (fun i => some (V.bl (f i))) = ((List.range n).map f).map V.bl := by
  rw [List.map_map]
  exact fm_some (fun i => V.bl (f i)) n
theorem fm_true (n : Nat) : (List.range n).filterMap (fun _ => some (V.bl true)) = (List.replicate n true).map V.bl := by
  rw [fm_bl (fun _ => true)]
  congr 1
  simp [List.map_const']
theorem all_rep (n : Nat) : (List.replicate n true).all id = true := by
  rw [List.all_eq_true]
  intro b hb
  exact (List.eq_of_mem_replicate hb)
/-- .. over xs, each item to f -/
theorem fm_get {α β : Type} (xs : List α) (f : α → Option β) : (List.range xs.length).filterMap (fun i => xs[i]?.bind f) = xs.filterMap f := by
  induction xs with
  | nil => rfl
  | cons a r ih =>
    rw [List.length_cons, List.range_succ_eq_map, List.filterMap_cons, List.filterMap_map, List.filterMap_cons]
    have e : (List.range r.length).filterMap ((fun i => (a :: r)[i]?.bind f) ∘ Nat.succ) = r.filterMap f := ih
    rw [e]
    rfl
theorem fm_get_map {α β : Type} (xs : List α) (f : α → β) : (List.range xs.length).filterMap (fun i => xs[i]?.map f) = xs.map f := by
  have q := fm_get xs (fun x => some (f x))
  have e : (fun i : Nat => xs[i]?.bind fun x => some (f x)) = fun i => xs[i]?.map f := by
    funext i
    cases xs[i]? <;> rfl
  rw [e] at q
  rw [q]
  exact List.filterMap_eq_map (f := f) ▸ rfl
end KS
set_option Elab.async false
set_option linter.all false
set_option maxRecDepth 100000
set_option maxHeartbeats 4000000
/-! The rules that name the written part, with it as a letter of its own (within a comprehension's block the context's is not to be named). -/
namespace KS
open PySem PySem.Spec PyProof.Rows L2
section
variable {X : Cx} {K : PySem.W.Frag}
theorem k_ix_list (e : X.K = K) : IxR X (rIxL K) := e ▸ ix_list
theorem k_ix_tup (e : X.K = K) : IxR X (rIxT K) := e ▸ ix_tup
theorem k_sl_list (e : X.K = K) : SlR X (rSlL K) := e ▸ sl_list
theorem k_sl_tup (e : X.K = K) : SlR X (rSlT K) := e ▸ sl_tup
theorem k_sl_tupA (e : X.K = K) : SlR X (rSlA K) := e ▸ sl_tupA
theorem k_op_catA (e : X.K = K) : OpR X (binaryOp .Add) (rCatA K) := e ▸ op_catA
theorem k_op_in_seq (e : X.K = K) : OpR X (compareOp .In) (rIn K false) := e ▸ op_in_seq
theorem k_op_notIn_seq (e : X.K = K) : OpR X (compareOp .NotIn) (rIn K true) := e ▸ op_notIn_seq
theorem k_op_inD (e : X.K = K) (hu : X.A.units + 65 < cLine) : OpR X (compareOp .In) (rInD K) := e ▸ op_inD hu
theorem k_op_notInD (e : X.K = K) (hu : X.A.units + 65 < cLine) : OpR X (compareOp .NotIn) (rNotInD K) := e ▸ op_notInD hu
theorem k_op_eqD (e : X.K = K) (hu : X.A.units + 64 < cLine) : OpR X (compareOp .Eq) (rEqD K) := e ▸ op_eqD hu
theorem k_op_neD (e : X.K = K) (hu : X.A.units + 64 < cLine) : OpR X (compareOp .NotEq) (rNeD K) := e ▸ op_neD hu
theorem k_indexD (e : X.K = K) (hu : X.A.units + 65 < cLine) : MtR X "list.index" (rIndexD K) := e ▸ mt_indexD hu
def rLen (K : PySem.W.Frag) : List V → Hp → VK → Prop := fun xs H Q => ∃ p ys, xs = [.ref p] ∧ (SqL K H p ys ∨ SqT K H p ys) ∧ Q (.int (ys.length : Nat)) H
theorem k_len (e : X.K = K) : CallR X (.builtin "len") (rLen K) := e ▸ call_len_seq
def rList (K : PySem.W.Frag) : List V → Hp → VK → Prop := fun xs H Q => ∃ p ys, xs = [.ref p] ∧ (SqL K H p ys ∨ SqT K H p ys) ∧ ∀ l, H l = none → Q (.ref l) (upd H l (.lst ys))
theorem k_list (e : X.K = K) : CallR X (.type "list") (rList K) := e ▸ call_list_of
def rTuple (K : PySem.W.Frag) : List V → Hp → VK → Prop := fun xs H Q => ∃ p ys, xs = [.ref p] ∧ ((SqL K H p ys ∧ ∀ l, H l = none → Q (.ref l) (upd H l (.tup ys))) ∨ (SqT K H p ys ∧ Q (.ref p) H))
theorem k_tuple (e : X.K = K) : CallR X (.type "tuple") (rTuple K) := e ▸ call_tuple_of
theorem k_all (e : X.K = K) (hc : X.calm = true) : CallR X (.builtin "all") (rAll K) := e ▸ cr_all hc
theorem k_sum (e : X.K = K) (hc : X.calm = true) : CallR X (.builtin "sum") (rSum K) := e ▸ cr_sum hc
theorem k_sorted (e : X.K = K) : CallR X (.builtin "sorted") (rSortedI K) := e ▸ cr_sortedI
theorem k_isi (e : X.K = K) : CallR X (.builtin "isinstance") (rIsi K) := e ▸ call_isi
theorem k_isiT (e : X.K = K) : CallR X (.builtin "isinstance") (rIsiT K) := e ▸ call_isiT
theorem k_pg_tup {es : List Expr} {k : Nat} {t : TGs} {n : Nat} {pos : Pos} (e : X.K = K) (hc : X.calm = true) (h : PGs X es t) (hn : (assignEach es X.env).length = n := by rfl) (hst : (assignEach es X.env).findIdx? (·.1) = none := by rfl) :
    PG X (.Tuple es k pos) (gTup K n t) := e ▸ pg_tup hc h hn hst
theorem k_pe_fld {e : Expr} {te : TE} {f : Str} {pos : Pos} (h : X.K = K) (he : PE X e te) (hb : attributeBase e f X.env (eval e X.env) = eval e X.env) : PE X (.Attribute e f pos) (tFld K te f) := h ▸ pe_fld he hb
end
end KS
set_option Elab.async false
set_option linter.all false
set_option maxRecDepth 100000
set_option maxHeartbeats 4000000
/-! Plain data: ints, texts, tuples and lists of such; equal exactly if the same. -/
namespace KS
open PySem PySem.Spec PyProof.Rows L2
mutual
def sm : PyData → Bool
  | .int _ => true
  | .str x => PyData.strOk x
  | .tuple xs => smAll xs
  | .list xs => smAll xs
  | _ => false
def smAll : List PyData → Bool
  | [] => true
  | x :: xs => sm x && smAll xs
end
mutual
theorem sm_lay : ∀ d : PyData, sm d = true → d.canLay0 = true
  | .int _, _ => by simp only [PyData.canLay0]
  | .str x, h => by simpa only [PyData.canLay0, sm] using h
  | .tuple xs, h => by
    rw [PyData.canLay0]
    exact smAll_lay xs (by simpa only [sm] using h)
  | .list xs, h => by
    rw [PyData.canLay0]
    exact smAll_lay xs (by simpa only [sm] using h)
  | .none, h => by simp [sm] at h
  | .bool _, h => by simp [sm] at h
  | .dict _, h => by simp [sm] at h
theorem smAll_lay : ∀ xs : List PyData, smAll xs = true → PyData.canLayAll0 xs = true
  | [], _ => by simp only [PyData.canLayAll0]
  | x :: xs, h => by
    have q : sm x = true ∧ smAll xs = true := by simpa [smAll] using h
    simp only [PyData.canLayAll0, sm_lay x q.1, smAll_lay xs q.2, Bool.and_self]
end
mutual
theorem eqv_sm : ∀ d e : PyData, sm d = true → PyData.eqv d e = true → sm e = true → d = e
  | .int i, e, _, h, he => by
    cases e <;> simp_all [PyData.eqv, sm]
  | .str x, e, _, h, he => by
    cases e <;> simp_all [PyData.eqv, sm]
  | .tuple xs, e, hs, h, he => by
    cases e with
    | tuple ys =>
      rw [PyData.eqv] at h
      rw [eqvAll_sm xs ys (by simpa only [sm] using hs) h (by simpa only [sm] using he)]
    | _ => simp_all [PyData.eqv, sm]
  | .list xs, e, hs, h, he => by
    cases e with
    | list ys =>
      rw [PyData.eqv] at h
      rw [eqvAll_sm xs ys (by simpa only [sm] using hs) h (by simpa only [sm] using he)]
    | _ => simp_all [PyData.eqv, sm]
  | .none, _, hs, _, _ => by simp [sm] at hs
  | .bool _, _, hs, _, _ => by simp [sm] at hs
  | .dict _, _, hs, _, _ => by simp [sm] at hs
theorem eqvAll_sm : ∀ xs ys : List PyData, smAll xs = true → PyData.eqvAll xs ys = true → smAll ys = true → xs = ys
  | [], [], _, _, _ => rfl
  | [], _ :: _, _, h, _ => by simp [PyData.eqvAll] at h
  | _ :: _, [], _, h, _ => by simp [PyData.eqvAll] at h
  | x :: xs, y :: ys, hs, h, he => by
    have q1 : sm x = true ∧ smAll xs = true := by simpa [smAll] using hs
    have q2 : PyData.eqv x y = true ∧ PyData.eqvAll xs ys = true := by simpa [PyData.eqvAll] using h
    have q3 : sm y = true ∧ smAll ys = true := by simpa [smAll] using he
    rw [eqv_sm x y q1.1 q2.1 q3.1, eqvAll_sm xs ys q1.2 q2.2 q3.2]
end
theorem eqv_iff {d e : PyData} (hd : sm d = true) (he : sm e = true) : PyData.eqv d e = true ↔ d = e :=
  ⟨fun h => eqv_sm d e hd h he, fun h => by rw [h]; exact SeqAt.eqv_refl e (sm_lay e he)⟩
theorem eqv_ne {d e : PyData} (hd : sm d = true) (he : sm e = true) (h : d ≠ e) : PyData.eqv d e = false :=
  Bool.eq_false_iff.mpr fun q => h ((eqv_iff hd he).mp q)
theorem smAll_iff : ∀ xs : List PyData, smAll xs = true ↔ ∀ x ∈ xs, sm x = true
  | [] => by simp [smAll]
  | x :: xs => by
    rw [smAll, Bool.and_eq_true, smAll_iff xs]
    simp
theorem depthAll_le {n : Nat} : ∀ xs : List PyData, (∀ x ∈ xs, x.depth ≤ n) → PyData.depthAll xs ≤ n
  | [], _ => by simp [PyData.depthAll]
  | x :: xs, h => by
    have q1 := h x List.mem_cons_self
    have q2 := depthAll_le xs fun y hy => h y (List.mem_cons_of_mem _ hy)
    rw [PyData.depthAll]
    omega
theorem shaped_of {d : PyData} (h : sm d = true) (hd : d.depth ≤ 20) : SeqAt.shaped d = true := by
  unfold SeqAt.shaped
  rw [sm_lay d h, decide_eq_true (by omega)]
  rfl
/-- a datum that is plain and not deep -/
def Sm (d : PyData) (n : Nat) : Prop := sm d = true ∧ d.depth ≤ n
theorem Sm.int (i : Int) : Sm (.int i) 1 := ⟨rfl, by simp [PyData.depth]⟩
theorem Sm.str {x : Str} (h : PyData.strOk x = true) : Sm (.str x) 1 := ⟨by rw [sm, h], by simp [PyData.depth]⟩
theorem Sm.tup {xs : List PyData} {n : Nat} (h : ∀ x ∈ xs, Sm x n) : Sm (.tuple xs) (n + 1) := ⟨by rw [sm]; exact (smAll_iff xs).mpr fun x hx => (h x hx).1, by
  have q := depthAll_le xs fun x hx => (h x hx).2
  rw [PyData.depth]
  omega⟩
theorem Sm.lst {xs : List PyData} {n : Nat} (h : ∀ x ∈ xs, Sm x n) : Sm (.list xs) (n + 1) := ⟨by rw [sm]; exact (smAll_iff xs).mpr fun x hx => (h x hx).1, by
  have q := depthAll_le xs fun x hx => (h x hx).2
  rw [PyData.depth]
  omega⟩
theorem Sm.mono {d : PyData} {n m : Nat} (h : Sm d n) (q : n ≤ m) : Sm d m := ⟨h.1, Nat.le_trans h.2 q⟩
theorem Sm.shaped {d : PyData} {n : Nat} (h : Sm d n) (q : n ≤ 20 := by decide) : SeqAt.shaped d = true := shaped_of h.1 (Nat.le_trans h.2 q)
theorem strOk_name {s : Str} (h : nameOk s = true) : PyData.strOk s = true := by
  unfold nameOk at h
  simp only [Bool.and_eq_true, List.all_eq_true, Bool.or_eq_true, decide_eq_true_eq] at h
  have h1 : ∀ c ∈ SMALL.cps.toList, c < 0x110000 := by decide +kernel
  have h2 : ∀ c ∈ FIGURES.cps.toList, c < 0x110000 := by decide +kernel
  unfold PyData.strOk
  rw [Array.all_eq_true]
  intro i hi
  have q := h.2 s.cps[i] (by simp)
  rw [decide_eq_true_eq]
  rcases q with q | q
  · exact h1 _ q
  · exact h2 _ q
theorem Sm.name {s : Str} (h : nameOk s = true) : Sm (.str s) 1 := Sm.str (strOk_name h)
theorem Sm.strs {l : List Str} (h : ∀ s ∈ l, nameOk s = true) : Sm (strsD l) 2 := Sm.tup fun x hx => by
  obtain ⟨s, hs, rfl⟩ := List.mem_map.mp hx
  exact Sm.name (h s hs)
theorem Sm.cons {x : PyData} {xs : List PyData} {n : Nat} (h : Sm x n) (t : ∀ y ∈ xs, Sm y n) : ∀ y ∈ x :: xs, Sm y n := fun y hy => by
  rcases List.mem_cons.mp hy with e | e
  · rw [e]
    exact h
  · exact t y e
theorem Sm.nil {n : Nat} : ∀ y ∈ ([] : List PyData), Sm y n := fun y hy => by cases hy
theorem dp_take {K : PySem.W.Frag} {H : Hp} : ∀ (n : Nat) {vs : List V} {ds : List PyData}, DpAll K H vs ds → DpAll K H (vs.take n) (ds.take n)
  | 0, _, _, _ => .nil
  | n + 1, _, _, .nil => .nil
  | n + 1, _, _, .cons h t => .cons h (dp_take n t)
mutual
/-- no list within -/
def nl : PyData → Bool
  | .int _ => true
  | .str _ => true
  | .none => true
  | .bool _ => true
  | .tuple xs => nlAll xs
  | .list _ => false
  | .dict _ => false
def nlAll : List PyData → Bool
  | [] => true
  | x :: xs => nl x && nlAll xs
end
theorem nlAll_iff : ∀ xs : List PyData, nlAll xs = true ↔ ∀ x ∈ xs, nl x = true
  | [] => by simp [nlAll]
  | x :: xs => by
    rw [nlAll, Bool.and_eq_true, nlAll_iff xs]
    simp
section
variable {K : PySem.W.Frag} {H H' : Hp}
mutual
theorem dp_keep (ht : ∀ a xs, SqT K H a xs → SqT K H' a xs) : ∀ {d : PyData} {v : V}, nl d = true → Dp K H v d → Dp K H' v d
  | .none, _, _, h => by cases h; exact .non
  | .bool b, _, _, h => by cases h; exact .bl b
  | .int i, _, _, h => by cases h; exact .int i
  | .str x, _, _, h => by cases h; exact .str x
  | .list ds, _, hn, h => by simp [nl] at hn
  | .tuple ds, _, hn, h => by
    cases h with
    | tup hs ha => exact .tup (ht _ _ hs) (dpAll_keep ht (by simpa [nl] using hn) ha)
  | .dict _, _, _, h => by cases h
theorem dpAll_keep (ht : ∀ a xs, SqT K H a xs → SqT K H' a xs) : ∀ {ds : List PyData} {vs : List V}, nlAll ds = true → DpAll K H vs ds → DpAll K H' vs ds
  | [], _, _, h => by cases h; exact .nil
  | d :: ds, _, hn, h => by
    have q : nl d = true ∧ nlAll ds = true := by simpa [nlAll] using hn
    cases h with
    | cons h1 h2 => exact .cons (dp_keep ht q.1 h1) (dpAll_keep ht q.2 h2)
end
/-- a list's change keeps the tuples -/
theorem t_upd {D : Addr} {o : HO} {u : HO} (hD : H D = some u) (hu : ∀ xs, u ≠ .tup xs) (hu2 : ∀ ob xs, u ≠ .frz ob (.tup xs)) {a : Addr} {xs : List V} (h : SqT K H a xs) : SqT K (upd H D o) a xs := by
  rcases h with (h | ⟨ob, h⟩) | h
  · exact .inl (.inl (by rw [upd_ne (ne_of h hD (fun q => hu xs q.symm))]; exact h))
  · exact .inl (.inr ⟨ob, by rw [upd_ne (ne_of h hD (fun q => hu2 ob xs q.symm))]; exact h⟩)
  · exact .inr h
theorem t_updL {D : Addr} {o : HO} {l : List V} (hD : H D = some (.lst l)) {a : Addr} {xs : List V} (h : SqT K H a xs) : SqT K (upd H D o) a xs :=
  t_upd hD (fun _ q => by cases q) (fun _ _ q => by cases q) h
end
/-- a comprehension whose items are data -/
theorem lc_dat {K : PySem.W.Frag} {J : It} {n : Nat} {G : Hp → Prop} {Y : Nat → Hp → V → Hp → Prop} {g : TG} {tt : TT} {te : TE} {vs : List Nat} {σ : L2.St} {H1 : Hp} {Qd : Addr → Hp → Prop} (w : Walk J n G Y) (o : Nat → Option PyData) (hnl : ∀ i d, i < n → o i = some d → nl d = true) (hn : n ≤ 1000)
    (hG : ∀ H, Same H1 H → G H)
    (hs : ∀ (i : Nat) (x : V) (H H' : Hp) (Rn : Hp → Prop) (Ry : V → Hp → Prop), i < n → Same H1 H → Y i H x H' → (o i = none → ∀ H4, Same H H4 → Rn H4) → (∀ d, o i = some d → ∀ y H4, Same H H4 → Dp K H4 y d → Ry y H4) →
      g x (wipe σ vs) H' fun σ2 H2 => wipe σ2 vs = wipe σ vs ∧ tt σ2 H2 fun b H3 => if b = true then te σ2 H3 Ry else Rn H3)
    (hd : ∀ D acc H, H1 D = none → Same H1 H → H D = some (.lst acc) → DpAll K H acc ((List.range n).filterMap o) → Qd D H) :
    ∀ D, H1 D = none → ∃ W : Nat → Nat → Hp → Prop, (∃ m, W 0 m (upd H1 D (.lst []))) ∧ ∀ i m H, W i m H →
      (J.stop i H ∧ Qd D H) ∨ (J.go i H ∧ ∃ Nx : Hp → Prop, (∀ H', Nx H' → ∃ m', m' < m ∧ W (i + 1) m' H') ∧ ∀ x H', J.yld i H x H' → g x (wipe σ vs) H' fun σ2 H2 => wipe σ2 vs = wipe σ vs ∧ tt σ2 H2 fun b H3 =>
        if b = true then te σ2 H3 fun y H4 => ∃ acc, H4 D = some (.lst acc) ∧ acc.length < sizeLine ∧ Nx (upd H4 D (.lst (acc ++ [y]))) else Nx H3) := by
  intro D hD
  refine lc_it w (Qd := Qd D) (fun i H => Same H1 H ∧ ∃ acc, H D = some (.lst acc) ∧ DpAll K H acc ((List.range i).filterMap o)) ⟨same_new hD, [], upd_same, .nil⟩ (fun H i _ p => hG i p.1) (fun i x H H' hi p hY => ?_) (fun H p => ?_)
  · obtain ⟨p1, acc, p2, p3⟩ := p
    refine hs i x H H' _ _ hi p1 hY (fun ho H4 s4 => ?_) (fun d ho y H4 s4 hy => ?_)
    · refine ⟨p1.trans s4, acc, s4 _ _ p2, ?_⟩
      rw [range_fm_succ, ho]
      simpa using p3.same s4
    · have hall : nlAll ((List.range i).filterMap o) = true := (nlAll_iff _).mpr fun z hz => by
        obtain ⟨j, hj, e⟩ := List.mem_filterMap.mp hz
        rw [List.mem_range] at hj
        exact hnl j z (by omega) e
      refine ⟨acc, s4 _ _ p2, ?_, same_mut (p1.trans s4) hD, acc ++ [y], upd_same, ?_⟩
      · rw [p3.length]
        exact Nat.lt_of_le_of_lt (Nat.le_trans (range_fm_len o i) (by omega : i ≤ 1000)) (by decide)
      · rw [range_fm_succ, ho]
        exact DpAll.append (dpAll_keep (fun a xs h => t_updL (s4 _ _ p2) h) hall (p3.same s4)) (.cons (dp_keep (fun a xs h => t_updL (s4 _ _ p2) h) (hnl i d hi ho) hy) .nil)
  · obtain ⟨p1, acc, p2, p3⟩ := p
    exact hd D acc H hD p1 p2 p3
theorem cut_take (xs : List V) (i : Nat) : cutV xs none (some (i : Int)) = xs.take i := by
  unfold cutV
  rw [HT.sIx_none, HT.sIx_nat, List.drop_zero, Nat.sub_zero]
  by_cases h : i ≤ xs.length
  · rw [Nat.min_eq_left h]
  · rw [Nat.min_eq_right (by omega), List.take_of_length_le (Nat.le_refl _), List.take_of_length_le (by omega)]
end KS
set_option Elab.async false
set_option linter.all false
set_option maxRecDepth 100000
set_option maxHeartbeats 4000000
/-! catalogs: is_whole, is_name, are_unlike, are_names, are_rows. -/
namespace KS
open PySem PySem.Spec PyProof.Rows L2
section
variable {P : Program} {w : World} {K : PySem.W.Frag} {mg : Str → Option Value} {base : Heap}
theorem tyT {a : Addr} {xs : List V} {H : Hp} (h : SqT K H a xs) : TyX K H (.ref a) (.type "tuple") := by
  rcases h with (h | ⟨o, h⟩) | ⟨o, its, n, hk, hc, _⟩
  · exact .base (.tup h)
  · exact .fTuple h
  · exact .kTuple hk hc
def spWhole : Sp := fun vs H Q _ => ∃ x a b : Int, vs = [.int x, .int a, .int b] ∧ Q (.bl (decide (a ≤ x) && decide (x ≤ b))) H
theorem sc_whole : FnScope ["thing", "least", "most"] ["thing", "least", "most"] (defScope (tp 19)) := ⟨rfl, rfl, rfl, by decide +kernel, rfl, by decide +kernel, by decide +kernel⟩
theorem ok_whole (T : Tx K mg) : Ok P w K mg base CX0 1 "is_whole" ["thing", "least", "most"] spWhole := by
  have sc := sc_whole
  refine Ok.mk_ (i := 19) T (by decide +kernel) sc (fun _ _ _ _ _ _ us hl => match us, hl with | [_, _, _], _ => rfl) (fun vs H Q E h => ?_) (fun f cdv A outer s H vs Q E hr h => ?_)
  · obtain ⟨x, a, b, rfl, _⟩ := h
    rfl
  · obtain ⟨x, a, b, rfl, k⟩ := h
    refine ⟨_, pss_one (ps_ret (pe_and (pe_callB (k_isi (K := K) rfl) (by rfl) (T.free _ (by decide +kernel)) (by decide +kernel) (pa_cons (pv 0) (pa_cons (pe_bltn (by rfl) (T.free _ (by decide +kernel)) (by decide +kernel) (v := .ty "int") rfl) pa_nil))) (pe_and (pe_not (pe_callB (k_isi (K := K) rfl) (by rfl) (T.free _ (by decide +kernel)) (by decide +kernel) (pa_cons (pv 0) (pa_cons (pe_bltn (by rfl) (T.free _ (by decide +kernel)) (by decide +kernel) (v := .ty "bool") rfl) pa_nil)))) (pe_one (pe_chain op_le op_le (pv 1) (pv 0) (pv 2)))))), ?_⟩
    refine ⟨_, rfl, _, _, _, _, true, rfl, .ty _, .base (.int _), kit_ty (by decide +kernel), _, rfl, iteT ?_⟩
    refine ⟨_, rfl, _, _, _, _, false, rfl, .ty _, .base (.int _), kit_ty (by decide +kernel), _, rfl, _, rfl, iteT ?_⟩
    refine ⟨_, rfl, _, rfl, _, _, rfl, rfl, _, rfl, ite2 (fun h1 => ?_) (fun h1 => ?_)⟩
    · rw [h1, Bool.true_and] at k
      exact ⟨_, rfl, _, _, rfl, rfl, k⟩
    · rw [Bool.eq_false_iff.mpr h1, Bool.false_and] at k
      exact k
/-! ### is_name -/
def spName : Sp := fun vs H Q _ => ∃ x : Str, vs = [.str x] ∧ nameOk x = true ∧ ∀ H', Same H H' → Q (.bl true) H'
theorem sc_name : FnScope ["thing", "sign"] ["thing"] (defScope (tp 20)) := ⟨rfl, rfl, rfl, by decide +kernel, rfl, by decide +kernel, by decide +kernel⟩
theorem ok_name (T : Tx K mg) : Ok P w K mg base CX0 1 "is_name" ["thing"] spName := by
  have sc := sc_name
  refine Ok.mk_ (i := 20) T (by decide +kernel) sc (fun _ _ _ _ _ _ us hl => match us, hl with | [_], _ => rfl) (fun vs H Q E h => ?_) (fun f cdv A outer s H vs Q E hr h => ?_)
  · obtain ⟨x, rfl, _⟩ := h
    rfl
  · obtain ⟨x, rfl, hx, k⟩ := h
    unfold nameOk at hx
    simp only [Bool.and_eq_true, decide_eq_true_eq, List.all_eq_true] at hx
    obtain ⟨⟨⟨h1, h8⟩, hc⟩, hall⟩ := hx
    obtain ⟨c, hc0, hcs⟩ : ∃ c, x.cps.toList[0]? = some c ∧ c ∈ SMALL.cps.toList := by
      rw [List.head?_eq_getElem?] at hc
      cases e : x.cps.toList[0]? with
      | none => rw [e] at hc; cases hc
      | some c => rw [e] at hc; exact ⟨c, rfl, of_decide_eq_true hc⟩
    refine ⟨_, pss_cons (ps_if (PW.pt (pw_or (pt_not (pt_val (pe_callB (k_isi (K := K) rfl) (by rfl) (T.free _ (by decide +kernel)) (by decide +kernel) (pa_cons (pv 0) (pa_cons (pe_bltn (by rfl) (T.free _ (by decide +kernel)) (by decide +kernel) (v := .ty "str") rfl) pa_nil))))) (pw_or (pt_not (pt_chain op_le op_le (pe_int) (pe_callB call_len_str (by rfl) (T.free _ (by decide +kernel)) (by decide +kernel) (pa_cons (pv 0) pa_nil)) (pe_int))) (pw_or1 (pt_cmpR op_notIn_sign (pe_item_str (pv 0) (pe_int) (fun _ _ => rfl)) (pe_cs T (x := "SMALL") (z := "abcdefghijklmnopqrstuvwxyz") (by decide +kernel)) (by rfl))))))
        (pss_one (ps_ret (pe_bl)))
        (pss_nil))
      (pss_one (ps_ret (pe_callB (k_all (K := K) rfl rfl) (by rfl) (T.free _ (by decide +kernel)) (by decide +kernel) (pa_cons (pe_lc (own := [("sign", 1)]) rfl sc.nd (pi_str (pv 0)) (blkOk_by (own := [("sign", 1)]) (N := ["thing", "sign"]) (sc := defScope (tp 20)) (by decide +kernel)) (fun _ _ _ _ _ => pg_name (i := 1) sc.nd rfl (Or.inl rfl)) (fun _ _ _ _ _ => pts_nil) (fun _ _ _ _ _ => pe_or (pe_cmpR op_in_sign (pv 1) (pe_cs T (x := "SMALL") (z := "abcdefghijklmnopqrstuvwxyz") (by decide +kernel)) (by rfl)) (pe_one (pe_cmpR op_in_sign (pv 1) (pe_cs T (x := "FIGURES") (z := "0123456789") (by decide +kernel)) (by rfl))))) pa_nil)))), ?_⟩
    refine ⟨_, rfl, _, _, _, _, true, rfl, .ty _, .base (.str _), kit_ty (by decide +kernel), _, rfl, iteF ?_⟩
    have hl : x.length ≤ sizeLine := Nat.le_trans (show x.length ≤ 8 from h8) (by decide)
    refine ⟨_, rfl, _, rfl, hl, _, _, rfl, rfl, _, rfl, iteD (show (1 : Int) ≤ ((x.length : Nat) : Int) by have q : 1 ≤ x.length := h1; omega) ⟨_, _, rfl, rfl, _, rfl, iteEf ?_ ?_⟩⟩
    · have q : x.length ≤ 8 := h8
      show (!decide (((x.length : Nat) : Int) ≤ 8)) = false
      rw [decide_eq_true (by omega)]
      rfl
    have h0l : (0 : Int) < ((x.length : Nat) : Int) := by have q : 1 ≤ x.length := h1; omega
    refine ⟨_, rfl, _, _, c, rfl, rfl, by decide, by decide, h0l, by simpa using hc0, _, _, rfl, rfl, _, rfl, iteEf ?_ ?_⟩
    · show (!decide (c ∈ SMALL.cps.toList)) = false
      rw [decide_eq_true hcs]
      rfl
    refine ⟨_, rfl, _, rfl, lc_gen walk_str (fun _ => some (.bl true)) (Nat.le_trans (show x.cps.size ≤ 8 by simpa using h8) (by decide)) (fun _ _ => True.intro) (fun i y H1 H2 Rn Ry hi s1 hY hn hy => ?_) (fun D H1 hD s1 h1 => ?_)⟩
    · obtain ⟨rfl, c', hc', rfl⟩ := hY
      have q := hall c' (List.mem_iff_getElem?.mpr ⟨i, by simpa using hc'⟩)
      rw [Bool.or_eq_true, decide_eq_true_eq, decide_eq_true_eq] at q
      refine ⟨rfl, _, rfl, _, _, rfl, rfl, _, rfl, ite2 (fun _ => ?_) (fun e => ?_)⟩
      · exact hy _ rfl _ (Same.refl _)
      · have e1 : ¬ c' ∈ SMALL.cps.toList := fun z => e (decide_eq_true z)
        refine ⟨_, rfl, _, _, rfl, rfl, ?_⟩
        have e2 : decide (c' ∈ (FIGURES : Str).cps.toList) = true := decide_eq_true (q.resolve_left e1)
        show Ry (V.bl (decide (c' ∈ (FIGURES : Str).cps.toList))) _
        rw [e2]
        exact hy _ rfl _ (Same.refl _)
    · rw [fm_true] at h1
      refine ⟨D, _, rfl, SqL.of h1, ?_⟩
      rw [all_rep]
      exact k _ s1
/-! ### are_unlike: of data that are unlike -/
def spUnlike (K : PySem.W.Frag) : Sp := fun vs H Q _ => ∃ (a : Addr) (ds : List PyData), vs = [.ref a] ∧ Dp K H (.ref a) (.list ds) ∧ ds.length ≤ 1000 ∧ (∀ d ∈ ds, Sm d 10) ∧ ds.Nodup ∧ ∀ H', Same H H' → Q (.bl true) H'
theorem sc_unlike : FnScope ["things", "at"] ["things"] (defScope (tp 21)) := ⟨rfl, rfl, rfl, by decide +kernel, rfl, by decide +kernel, by decide +kernel⟩
theorem ok_unlike (T : Tx K mg) : Ok P w K mg base CX0 1 "are_unlike" ["things"] (spUnlike K) := by
  have sc := sc_unlike
  refine Ok.mk_ (i := 21) T (by decide +kernel) sc (fun _ _ _ _ _ _ us hl => match us, hl with | [_], _ => rfl) (fun vs H Q E h => ?_) (fun f cdv A outer s H vs Q E hr h => ?_)
  · obtain ⟨a, ds, rfl, _⟩ := h
    rfl
  · obtain ⟨a, ds, rfl, hd, hlen, hsh, hpw, k⟩ := h
    obtain ⟨xs, hS, hA⟩ : ∃ xs, SqL K H a xs ∧ DpAll K H xs ds := by
      cases hd with
      | lst h1 h2 => exact ⟨_, h1, h2⟩
    have hl := hA.length
    refine ⟨_, pss_one (ps_ret (pe_callB (k_all (K := K) rfl rfl) (by rfl) (T.free _ (by decide +kernel)) (by decide +kernel) (pa_cons (pe_lc (own := [("at", 1)]) rfl sc.nd (pi_range1 rfl (T.free _ (by decide +kernel)) (pa_cons (pe_callB (k_len (K := K) rfl) (by rfl) (T.free _ (by decide +kernel)) (by decide +kernel) (pa_cons (pv 0) pa_nil)) pa_nil)) (blkOk_by (own := [("at", 1)]) (N := ["things", "at"]) (sc := defScope (tp 21)) (by decide +kernel)) (fun _ _ _ _ _ => pg_name (i := 1) sc.nd rfl (Or.inl rfl)) (fun _ _ _ _ _ => pts_nil) (fun _ _ _ _ _ => pe_cmpR (k_op_notInD (K := K) rfl (hu65 hr)) (pe_ix (k_ix_list (K := K) rfl) (pv 0) (pv 1) (fun _ _ => rfl)) (pe_slice (k_sl_list (K := K) rfl) (pv 0) po_none (po_some (pv 1))) (by rfl))) pa_nil))), ?_⟩
    refine ⟨_, rfl, _, _, rfl, .inl hS, _, rfl, by omega, by omega, ?_⟩
    refine lc_gen walk_range (fun _ => some (.bl true)) (by omega) (fun _ _ => True.intro) (fun i y H1 H2 Rn Ry hi s1 hY hn hy => ?_) (fun D H1 hD s1 h1 => ?_)
    · obtain ⟨rfl, rfl⟩ := hY
      have hi' : i < xs.length := by omega
      obtain ⟨d, hd1, hd2⟩ := hA.get' (i := i) (v := xs[i]) (by simp [hi'])
      have S1 := s1.seq hS
      refine ⟨rfl, _, rfl, _, rfl, a, xs, _, xs[i], rfl, rfl, S1, at_of (j := i) (by omega) (by simp [hi']), _, rfl, _, rfl, _, rfl, a, xs, rfl, S1, fun p hp => ?_⟩
      have e0 : ((0 : Int) + (i : Nat)) = ((i : Nat) : Int) := by omega
      rw [e0, cut_take]
      have sp : Same H2 (upd H2 p (.lst (xs.take i))) := same_new hp
      refine ⟨d, ds.take i, hd2.same (s1.trans sp), .lst (SqL.of upd_same) (dp_take i (hA.same (s1.trans sp))), (hsh d (List.mem_iff_getElem?.mpr ⟨i, hd1⟩)).shaped, (Sm.lst fun x hx => hsh x (List.mem_of_mem_take hx)).shaped, ?_⟩
      have e1 : (ds.take i).any (fun z => PyData.eqv z d) = false := by
        rw [List.any_eq_false]
        intro z hz q
        have hzs := List.mem_of_mem_take hz
        have e2 := (eqv_iff (hsh z hzs).1 (hsh d (List.mem_iff_getElem?.mpr ⟨i, hd1⟩)).1).mp q
        obtain ⟨j, hj, e3⟩ := List.mem_iff_getElem.mp hz
        rw [List.length_take] at hj
        rw [List.getElem_take] at e3
        have e4 := nd_ix hpw (i := j) (j := i) (by rw [List.getElem?_eq_getElem (by omega), e3, e2]) hd1
        omega
      rw [e1]
      exact hy _ rfl _ sp
    · rw [fm_true] at h1
      refine ⟨D, _, rfl, SqL.of h1, ?_⟩
      rw [all_rep]
      exact k _ s1
/-! ### are_names -/
def spNames (K : PySem.W.Frag) : Sp := fun vs H Q _ => ∃ (v : V) (l : List Str) (n : Nat), vs = [v, .int (n : Nat)] ∧ Dp K H v (strsD l) ∧ namesOk l n ∧ n ≤ 100 ∧ ∀ H', Same H H' → Q (.bl true) H'
theorem sc_names : FnScope ["thing", "most", "one"] ["thing", "most"] (defScope (tp 22)) := ⟨rfl, rfl, rfl, by decide +kernel, rfl, by decide +kernel, by decide +kernel⟩
theorem ok_names (T : Tx K mg) (d_is_name : Ok P w K mg base CX0 1 "is_name" ["thing"] spName) (d_are_unlike : Ok P w K mg base CX0 1 "are_unlike" ["things"] (spUnlike K)) : Ok P w K mg base CX0 2 "are_names" ["thing", "most"] (spNames K) := by
  have sc := sc_names
  refine Ok.mk_ (i := 22) T (by decide +kernel) sc (fun _ _ _ _ _ _ us hl => match us, hl with | [_, _], _ => rfl) (fun vs H Q E h => ?_) (fun f cdv A outer s H vs Q E hr h => ?_)
  · obtain ⟨v, l, n, rfl, _⟩ := h
    rfl
  · obtain ⟨v, l, n, rfl, hd, ⟨h1, hn, hok, hnd⟩, hn100, k⟩ := h
    obtain ⟨a, xs, rfl, hS, hA⟩ := Dp.tup_inv hd
    have ex := hA.strs
    subst ex
    have hl : (l.map V.str).length = l.length := List.length_map ..
    refine ⟨_, pss_cons (ps_if (PW.pt (pw_or (pt_not (pt_val (pe_callB (k_isi (K := K) rfl) (by rfl) (T.free _ (by decide +kernel)) (by decide +kernel) (pa_cons (pv 0) (pa_cons (pe_bltn (by rfl) (T.free _ (by decide +kernel)) (by decide +kernel) (v := .ty "tuple") rfl) pa_nil))))) (pw_or1 (pt_not (pt_chain op_le op_le (pe_int) (pe_callB (k_len (K := K) rfl) (by rfl) (T.free _ (by decide +kernel)) (by decide +kernel) (pa_cons (pv 0) pa_nil)) (pv 1))))))
        (pss_one (ps_ret (pe_bl)))
        (pss_nil))
      (pss_one (ps_ret (pe_and (pe_callB (k_all (K := K) rfl rfl) (by rfl) (T.free _ (by decide +kernel)) (by decide +kernel) (pa_cons (pe_lc (own := [("one", 2)]) rfl sc.nd (pi_tup (pv 0)) (blkOk_by (own := [("one", 2)]) (N := ["thing", "most", "one"]) (sc := defScope (tp 22)) (by decide +kernel)) (fun _ _ _ _ _ => pg_name (i := 2) sc.nd rfl (Or.inl rfl)) (fun _ _ _ _ _ => pts_nil) (fun _ _ _ _ _ => pe_fn d_is_name (hr.mono (by decide)) pass0 (pa_cons (pv 2) pa_nil))) pa_nil)) (pe_one (pe_fn d_are_unlike (hr.mono (by decide)) pass0 (pa_cons (pe_callTy (k_list (K := K) rfl) (by rfl) (T.free _ (by decide +kernel)) (by decide +kernel) (pa_cons (pv 0) pa_nil)) pa_nil)))))), ?_⟩
    refine ⟨_, rfl, _, _, _, _, true, rfl, .ty _, tyT hS, kit_ty (by decide +kernel), _, rfl, iteF ?_⟩
    refine ⟨_, rfl, _, _, rfl, .inr hS, _, _, rfl, rfl, _, rfl, iteD (by rw [hl]; omega) ⟨_, rfl, _, _, rfl, rfl, _, rfl, iteEf ?_ ?_⟩⟩
    · show (!decide (((l.map V.str).length : Int) ≤ (n : Nat))) = false
      rw [hl, decide_eq_true (by omega)]
      rfl
    refine ⟨_, rfl, _, rfl, ⟨_, hS⟩, ?_⟩
    refine lc_gen (walk_tup (xs := l.map V.str)) (fun _ => some (.bl true)) (by omega) (fun H1 s1 => same_t s1 hS) (fun i y H1 H2 Rn Ry hi s1 hY hn hy => ?_) (fun D H1 hD s1 h1 => ?_)
    · obtain ⟨rfl, hx⟩ := hY
      obtain ⟨z, hz, rfl⟩ : ∃ z, z ∈ l ∧ y = V.str z := by
        obtain ⟨z, hz, e⟩ := List.mem_map.mp (List.mem_of_getElem? hx)
        exact ⟨z, hz, e.symm⟩
      exact ⟨rfl, _, rfl, z, rfl, hok z hz, fun H4 s4 => hy _ rfl _ s4⟩
    · rw [fm_true] at h1
      refine ⟨D, _, rfl, SqL.of h1, ?_⟩
      rw [all_rep]
      refine ⟨_, rfl, iteT ⟨_, rfl, a, _, rfl, .inr (same_t s1 hS), fun p hp => ?_⟩⟩
      have sp : Same H1 (upd H1 p (.lst (l.map V.str))) := same_new hp
      refine ⟨p, l.map .str, rfl, .lst (SqL.of upd_same) (hA.same (s1.trans sp)), by rw [List.length_map]; omega, fun d hd => ?_, ?_, fun H4 s4 => k _ ((s1.trans sp).trans s4)⟩
      · obtain ⟨s, hs, rfl⟩ := List.mem_map.mp hd
        exact (Sm.name (hok s hs)).mono (by decide)
      · exact List.Pairwise.map _ (fun a b h q => h (PyData.str.inj q)) hnd
/-! ### are_rows -/
def spRows (K : PySem.W.Frag) : Sp := fun vs H Q _ => ∃ (v : V) (ds : List PyData) (n m : Nat), vs = [v, .int (n : Nat), .int (m : Nat)] ∧ Dp K H v (.tuple ds) ∧ ds.length ≤ n ∧ n ≤ 100 ∧ (∀ d ∈ ds, ∃ es, d = .tuple es ∧ es.length = m) ∧ ∀ H', Same H H' → Q (.bl true) H'
theorem sc_rows : FnScope ["thing", "most", "width", "one"] ["thing", "most", "width"] (defScope (tp 23)) := ⟨rfl, rfl, rfl, by decide +kernel, rfl, by decide +kernel, by decide +kernel⟩
theorem ok_rows (T : Tx K mg) : Ok P w K mg base CX0 1 "are_rows" ["thing", "most", "width"] (spRows K) := by
  have sc := sc_rows
  refine Ok.mk_ (i := 23) T (by decide +kernel) sc (fun _ _ _ _ _ _ us hl => match us, hl with | [_, _, _], _ => rfl) (fun vs H Q E h => ?_) (fun f cdv A outer s H vs Q E hr h => ?_)
  · obtain ⟨v, l, n, m, rfl, _⟩ := h
    rfl
  · obtain ⟨v, ds, n, m, rfl, hd, hn, hn100, hrow, k⟩ := h
    obtain ⟨a, xs, rfl, hS, hA⟩ := Dp.tup_inv hd
    have hl := hA.length
    refine ⟨_, pss_cons (ps_if (PW.pt (pw_or (pt_not (pt_val (pe_callB (k_isi (K := K) rfl) (by rfl) (T.free _ (by decide +kernel)) (by decide +kernel) (pa_cons (pv 0) (pa_cons (pe_bltn (by rfl) (T.free _ (by decide +kernel)) (by decide +kernel) (v := .ty "tuple") rfl) pa_nil))))) (pw_or1 (pt_cmpR op_gt (pe_callB (k_len (K := K) rfl) (by rfl) (T.free _ (by decide +kernel)) (by decide +kernel) (pa_cons (pv 0) pa_nil)) (pv 1) (nomark _)))))
        (pss_one (ps_ret (pe_bl)))
        (pss_nil))
      (pss_one (ps_ret (pe_callB (k_all (K := K) rfl rfl) (by rfl) (T.free _ (by decide +kernel)) (by decide +kernel) (pa_cons (pe_lc (own := [("one", 3)]) rfl sc.nd (pi_tup (pv 0)) (blkOk_by (own := [("one", 3)]) (N := ["thing", "most", "width", "one"]) (sc := defScope (tp 23)) (by decide +kernel)) (fun _ _ _ _ _ => pg_name (i := 3) sc.nd rfl (Or.inl rfl)) (fun _ _ _ _ _ => pts_nil) (fun _ _ _ _ _ => pe_and (pe_callB (k_isi (K := K) rfl) (by rfl) (T.free _ (by decide +kernel)) (by decide +kernel) (pa_cons (pv 3) (pa_cons (pe_bltn (by rfl) (T.free _ (by decide +kernel)) (by decide +kernel) (v := .ty "tuple") rfl) pa_nil))) (pe_one (pe_cmpR op_eq (pe_callB (k_len (K := K) rfl) (by rfl) (T.free _ (by decide +kernel)) (by decide +kernel) (pa_cons (pv 3) pa_nil)) (pv 2) (nomark _))))) pa_nil)))), ?_⟩
    refine ⟨_, rfl, _, _, _, _, true, rfl, .ty _, tyT hS, kit_ty (by decide +kernel), _, rfl, iteF ?_⟩
    refine ⟨_, rfl, _, _, rfl, .inr hS, _, rfl, _, _, rfl, rfl, _, rfl, iteDn (by omega) ?_⟩
    refine ⟨_, rfl, _, rfl, ⟨_, hS⟩, ?_⟩
    refine lc_gen (walk_tup (xs := xs)) (fun _ => some (.bl true)) (by omega) (fun H1 s1 => same_t s1 hS) (fun i y H1 H2 Rn Ry hi s1 hY hn hy => ?_) (fun D H1 hD s1 h1 => ?_)
    · obtain ⟨rfl, hx⟩ := hY
      obtain ⟨d, hd1, hd2⟩ := hA.get' hx
      obtain ⟨es, rfl, hm⟩ := hrow d (List.mem_of_getElem? hd1)
      obtain ⟨b, ys, rfl, hS2, hA2⟩ := Dp.tup_inv hd2
      have hl2 := hA2.length
      have S2 := same_t s1 hS2
      refine ⟨rfl, _, rfl, _, _, _, _, true, rfl, .ty _, tyT S2, kit_ty (by decide +kernel), _, rfl, iteT ⟨_, rfl, _, _, rfl, .inr S2, _, rfl, rfl, ?_⟩⟩
      show Ry (V.bl (decide (V.int ((ys.length : Nat) : Int) = V.int ((m : Nat) : Int)))) H2
      rw [decide_eq_true (by rw [hl2, hm])]
      exact hy _ rfl _ (Same.refl _)
    · rw [fm_true] at h1
      refine ⟨D, _, rfl, SqL.of h1, ?_⟩
      rw [all_rep]
      exact k _ s1
end
end KS
set_option Elab.async false
set_option linter.all false
set_option maxRecDepth 100000
set_option maxHeartbeats 4000000
/-! What stands in the heap where a datum of a shape stands. -/
namespace KS
open PySem PySem.Spec PyProof.Rows L2
section
variable {K : PySem.W.Frag} {H : Hp} {v : V}
theorem dp_str {s : Str} (h : Dp K H v (.str s)) : v = .str s := by cases h; rfl
theorem dp_int {i : Int} (h : Dp K H v (.int i)) : v = .int i := by cases h; rfl
theorem dp1 {xs : List V} {d1 : PyData} (h : DpAll K H xs [d1]) : ∃ v1, xs = [v1] ∧ Dp K H v1 d1 := by
  cases h with
  | cons h1 t => cases t; exact ⟨_, rfl, h1⟩
theorem dp2 {xs : List V} {d1 d2 : PyData} (h : DpAll K H xs [d1, d2]) : ∃ v1 v2, xs = [v1, v2] ∧ Dp K H v1 d1 ∧ Dp K H v2 d2 := by
  cases h with
  | cons h1 t =>
    obtain ⟨v2, rfl, h2⟩ := dp1 t
    exact ⟨_, v2, rfl, h1, h2⟩
theorem dp3 {xs : List V} {d1 d2 d3 : PyData} (h : DpAll K H xs [d1, d2, d3]) : ∃ v1 v2 v3, xs = [v1, v2, v3] ∧ Dp K H v1 d1 ∧ Dp K H v2 d2 ∧ Dp K H v3 d3 := by
  cases h with
  | cons h1 t =>
    obtain ⟨v2, v3, rfl, h2, h3⟩ := dp2 t
    exact ⟨_, v2, v3, rfl, h1, h2, h3⟩
theorem dp4 {xs : List V} {d1 d2 d3 d4 : PyData} (h : DpAll K H xs [d1, d2, d3, d4]) : ∃ v1 v2 v3 v4, xs = [v1, v2, v3, v4] ∧ Dp K H v1 d1 ∧ Dp K H v2 d2 ∧ Dp K H v3 d3 ∧ Dp K H v4 d4 := by
  cases h with
  | cons h1 t =>
    obtain ⟨v2, v3, v4, rfl, h2, h3, h4⟩ := dp3 t
    exact ⟨_, v2, v3, v4, rfl, h1, h2, h3, h4⟩
theorem dp5 {xs : List V} {d1 d2 d3 d4 d5 : PyData} (h : DpAll K H xs [d1, d2, d3, d4, d5]) : ∃ v1 v2 v3 v4 v5, xs = [v1, v2, v3, v4, v5] ∧ Dp K H v1 d1 ∧ Dp K H v2 d2 ∧ Dp K H v3 d3 ∧ Dp K H v4 d4 ∧ Dp K H v5 d5 := by
  cases h with
  | cons h1 t =>
    obtain ⟨v2, v3, v4, v5, rfl, h2, h3, h4, h5⟩ := dp4 t
    exact ⟨_, v2, v3, v4, v5, rfl, h1, h2, h3, h4, h5⟩
theorem dp6 {xs : List V} {d1 d2 d3 d4 d5 d6 : PyData} (h : DpAll K H xs [d1, d2, d3, d4, d5, d6]) : ∃ v1 v2 v3 v4 v5 v6, xs = [v1, v2, v3, v4, v5, v6] ∧ Dp K H v1 d1 ∧ Dp K H v2 d2 ∧ Dp K H v3 d3 ∧ Dp K H v4 d4 ∧ Dp K H v5 d5 ∧ Dp K H v6 d6 := by
  cases h with
  | cons h1 t =>
    obtain ⟨v2, v3, v4, v5, v6, rfl, h2, h3, h4, h5, h6⟩ := dp5 t
    exact ⟨_, v2, v3, v4, v5, v6, rfl, h1, h2, h3, h4, h5, h6⟩
theorem strs_at {l : List Str} (h : Dp K H v (strsD l)) : ∃ a, v = .ref a ∧ SqT K H a (l.map V.str) := by
  obtain ⟨a, xs, rfl, hS, hA⟩ := Dp.tup_inv h
  rw [hA.strs] at hS
  exact ⟨a, rfl, hS⟩
theorem lane_at {l : Lane} (h : Dp K H v l.d) : ∃ a, v = .ref a ∧ SqT K H a [.str l.h, .str l.r, .int l.lo, .int l.hi, .int l.pr] := by
  obtain ⟨a, xs, rfl, hS, hA⟩ := Dp.tup_inv h
  obtain ⟨v1, v2, v3, v4, v5, rfl, h1, h2, h3, h4, h5⟩ := dp5 hA
  cases dp_str h1
  cases dp_str h2
  cases dp_int h3
  cases dp_int h4
  cases dp_int h5
  exact ⟨a, rfl, hS⟩
theorem sup_at {s : Sup} (h : Dp K H v s.d) : ∃ a, v = .ref a ∧ SqT K H a [.str s.n, .str s.h, .str s.it, .int s.day, .int s.cnt] := by
  obtain ⟨a, xs, rfl, hS, hA⟩ := Dp.tup_inv h
  obtain ⟨v1, v2, v3, v4, v5, rfl, h1, h2, h3, h4, h5⟩ := dp5 hA
  cases dp_str h1
  cases dp_str h2
  cases dp_str h3
  cases dp_int h4
  cases dp_int h5
  exact ⟨a, rfl, hS⟩
theorem wish_at {x : Wish} (h : Dp K H v x.d) : ∃ a ai, v = .ref a ∧ SqT K H a [ai, .int x.cnt] ∧ Dp K H ai (strsD x.its) := by
  obtain ⟨a, xs, rfl, hS, hA⟩ := Dp.tup_inv h
  obtain ⟨v1, v2, rfl, h1, h2⟩ := dp2 hA
  cases dp_int h2
  exact ⟨a, v1, rfl, hS, h1⟩
theorem order_at {o : Order} (h : Dp K H v o.d) : ∃ a aw, v = .ref a ∧ SqT K H a [.str o.n, .str o.r, aw, .int o.by_, .int o.wo] ∧ Dp K H aw (.tuple (o.ws.map Wish.d)) := by
  obtain ⟨a, xs, rfl, hS, hA⟩ := Dp.tup_inv h
  obtain ⟨v1, v2, v3, v4, v5, rfl, h1, h2, h3, h4, h5⟩ := dp5 hA
  cases dp_str h1
  cases dp_str h2
  cases dp_int h4
  cases dp_int h5
  exact ⟨a, v3, rfl, hS, h3⟩
theorem fw_at {f : FW} (h : Dp K H v f.d) : ∃ a ai, v = .ref a ∧ SqT K H a [.str f.n, .int (f.at_ : Nat), ai, .str f.r, .int f.cnt, .int f.by_] ∧ Dp K H ai (strsD f.its) := by
  obtain ⟨a, xs, rfl, hS, hA⟩ := Dp.tup_inv h
  obtain ⟨v1, v2, v3, v4, v5, v6, rfl, h1, h2, h3, h4, h5, h6⟩ := dp6 hA
  cases dp_str h1
  cases dp_int h2
  cases dp_str h4
  cases dp_int h5
  cases dp_int h6
  exact ⟨a, v3, rfl, hS, h3⟩
/-- a catalog: its five parts -/
structure CatAt (K : PySem.W.Frag) (H : Hp) (c : Cat) (a : Addr) (vh vr vi vl vs : V) : Prop where
  t : SqT K H a [vh, vr, vi, vl, vs]
  h : Dp K H vh (strsD c.hs)
  r : Dp K H vr (strsD c.rs)
  i : Dp K H vi (strsD c.its)
  l : Dp K H vl (.tuple (c.lanes.map Lane.d))
  s : Dp K H vs (.tuple (c.sups.map Sup.d))
theorem cat_at {c : Cat} (h : Dp K H v c.d) : ∃ a vh vr vi vl vs, v = .ref a ∧ CatAt K H c a vh vr vi vl vs := by
  obtain ⟨a, xs, rfl, hS, hA⟩ := Dp.tup_inv h
  obtain ⟨v1, v2, v3, v4, v5, rfl, h1, h2, h3, h4, h5⟩ := dp5 hA
  exact ⟨a, v1, v2, v3, v4, v5, rfl, hS, h1, h2, h3, h4, h5⟩
theorem inV_strs (s : Str) (l : List Str) : inV (.str s) (l.map V.str) = decide (s ∈ l) := by
  unfold inV
  rw [List.any_map]
  induction l with
  | nil => simp
  | cons a r ih =>
    rw [List.any_cons, ih]
    show ((a == s) || _) = _
    by_cases e : a = s
    · subst e
      simp
    · have e' : ¬ s = a := fun q => e q.symm
      simp [e, e']
theorem flat_strs (l : List Str) : (l.map V.str).all flatV = true := by
  rw [List.all_map]
  exact List.all_eq_true.mpr fun _ _ => rfl
theorem inV_ints (s : Int) (l : List Int) : inV (.int s) (l.map V.int) = decide (s ∈ l) := by
  unfold inV
  rw [List.any_map]
  induction l with
  | nil => simp
  | cons a r ih =>
    rw [List.any_cons, ih]
    show ((a == s) || _) = _
    by_cases e : a = s
    · subst e
      simp
    · have e' : ¬ s = a := fun q => e q.symm
      simp [e, e']
theorem flat_ints (l : List Int) : (l.map V.int).all flatV = true := by
  rw [List.all_map]
  exact List.all_eq_true.mpr fun _ _ => rfl
/-- s in t, s not in t: a text in a tuple of texts -/
theorem rin_t {a : Addr} {s : Str} {l : List Str} {neg : Bool} {Q : VK} (h : SqT K H a (l.map V.str)) (q : Q (.bl (if neg then !decide (s ∈ l) else decide (s ∈ l))) H) : rIn K neg (.str s) (.ref a) H Q := by
  refine ⟨a, _, rfl, .inr h, rfl, flat_strs l, ?_⟩
  rw [inV_strs]
  exact q
end
theorem ni_str {s : Str} {l : List Str} (h : s ∈ l) : (if (true : Bool) = true then !inV (V.str s) (l.map V.str) else inV (V.str s) (l.map V.str)) = false := by
  rw [if_pos rfl, inV_strs, decide_eq_true h]
  rfl
theorem ni_str' {s : Str} {l : List Str} (h : ¬ s ∈ l) : (if (true : Bool) = true then !inV (V.str s) (l.map V.str) else inV (V.str s) (l.map V.str)) = true := by
  rw [if_pos rfl, inV_strs, decide_eq_false h]
  rfl
theorem is_str {s : Str} {l : List Str} : (if (false : Bool) = true then !inV (V.str s) (l.map V.str) else inV (V.str s) (l.map V.str)) = decide (s ∈ l) := by
  rw [if_neg Bool.false_ne_true, inV_strs]
theorem Lane.sm {c : Cat} {l : Lane} (h : l.Ok c) : Sm l.d 3 := Sm.tup (n := 2) (Sm.cons ((Sm.name h.hn).mono (by decide)) (Sm.cons ((Sm.name h.rn).mono (by decide)) (Sm.cons ((Sm.int _).mono (by decide)) (Sm.cons ((Sm.int _).mono (by decide)) (Sm.cons ((Sm.int _).mono (by decide)) Sm.nil)))))
end KS
set_option Elab.async false
set_option linter.all false
set_option maxRecDepth 100000
set_option maxHeartbeats 4000000
/-! catalogs: is_lane, is_supply, is_catalog, need_catalog. -/
namespace KS
open PySem PySem.Spec PyProof.Rows L2
section
variable {P : Program} {w : World} {K : PySem.W.Frag} {mg : Str → Option Value} {base : Heap}
theorem whole_in {x a b : Int} (h : a ≤ x ∧ x ≤ b) : (decide (a ≤ x) && decide (x ≤ b)) = true := by
  rw [decide_eq_true h.1, decide_eq_true h.2]
  rfl
def spLane (K : PySem.W.Frag) : Sp := fun vs H Q _ => ∃ (v vh vr : V) (c : Cat) (l : Lane), vs = [v, vh, vr] ∧ Dp K H v l.d ∧ Dp K H vh (strsD c.hs) ∧ Dp K H vr (strsD c.rs) ∧ l.Ok c ∧ ∀ H', Same H H' → Q (.bl true) H'
theorem sc_lane : FnScope ["thing", "houses", "regions", "house", "region", "least", "most", "price"] ["thing", "houses", "regions"] (defScope (tp 24)) := ⟨rfl, rfl, rfl, by decide +kernel, rfl, by decide +kernel, by decide +kernel⟩
theorem ok_lane (T : Tx K mg) (d_is_whole : Ok P w K mg base CX0 1 "is_whole" ["thing", "least", "most"] spWhole) (d_is_name : Ok P w K mg base CX0 1 "is_name" ["thing"] spName) : Ok P w K mg base CX0 2 "is_lane" ["thing", "houses", "regions"] (spLane K) := by
  have sc := sc_lane
  refine Ok.mk_ (i := 24) T (by decide +kernel) sc (fun _ _ _ _ _ _ us hl => match us, hl with | [_, _, _], _ => rfl) (fun vs H Q E h => ?_) (fun f cdv A outer s H vs Q E hr h => ?_)
  · obtain ⟨v, vh, vr, c, l, rfl, _⟩ := h
    rfl
  · obtain ⟨v, vh, vr, c, l, rfl, hd, hh, hrg, ok, k⟩ := h
    obtain ⟨a, rfl, hS⟩ := lane_at hd
    obtain ⟨ah, rfl, hH⟩ := strs_at hh
    obtain ⟨ar, rfl, hR⟩ := strs_at hrg
    refine ⟨_, pss_cons (ps_asg (pv 0) (k_pg_tup (K := K) rfl rfl (pgs_cons (pg_name (i := 3) sc.nd rfl (Or.inl rfl)) (pgs_cons (pg_name (i := 4) sc.nd rfl (Or.inl rfl)) (pgs_cons (pg_name (i := 5) sc.nd rfl (Or.inl rfl)) (pgs_cons (pg_name (i := 6) sc.nd rfl (Or.inl rfl)) (pgs_cons (pg_name (i := 7) sc.nd rfl (Or.inl rfl)) pgs_nil)))))))
      (pss_cons (ps_if (PW.pt (pw_or (pt_not (pt_val (pe_fn d_is_name (hr.mono (by decide)) pass0 (pa_cons (pv 3) pa_nil)))) (pw_or (pt_not (pt_val (pe_fn d_is_name (hr.mono (by decide)) pass0 (pa_cons (pv 4) pa_nil)))) (pw_or (pt_cmpR (k_op_notIn_seq (K := K) rfl) (pv 3) (pv 1) (by rfl)) (pw_or1 (pt_cmpR (k_op_notIn_seq (K := K) rfl) (pv 4) (pv 2) (by rfl)))))))
        (pss_one (ps_ret (pe_bl)))
        (pss_nil))
      (pss_one (ps_ret (pe_and (pe_fn d_is_whole (hr.mono (by decide)) pass0 (pa_cons (pv 6) (pa_cons (pe_int) (pa_cons (pe_int) pa_nil)))) (pe_and (pe_fn d_is_whole (hr.mono (by decide)) pass0 (pa_cons (pv 5) (pa_cons (pe_int) (pa_cons (pv 6) pa_nil)))) (pe_one (pe_fn d_is_whole (hr.mono (by decide)) pass0 (pa_cons (pv 7) (pa_cons (pe_int) (pa_cons (pe_int) pa_nil)))))))))), ?_⟩
    refine ⟨_, rfl, a, _, rfl, hS, rfl, _, _, rfl, _, _, rfl, _, _, rfl, _, _, rfl, _, _, rfl, rfl, ?_⟩
    refine ⟨_, rfl, l.h, rfl, ok.hn, fun H1 s1 => ⟨_, rfl, iteF ⟨_, rfl, l.r, rfl, ok.rn, fun H2 s2 => ⟨_, rfl, iteF ?_⟩⟩⟩⟩
    have s12 := s1.trans s2
    refine ⟨_, rfl, _, rfl, ah, _, rfl, .inr (same_t s12 hH), rfl, flat_strs _, _, rfl, iteEf (ni_str ok.h) ?_⟩
    refine ⟨_, rfl, _, rfl, ar, _, rfl, .inr (same_t s12 hR), rfl, flat_strs _, _, rfl, iteEf (ni_str ok.r) ?_⟩
    refine ⟨_, rfl, _, _, _, rfl, _, rfl, iteE (whole_in ⟨Int.le_trans ok.lo.1 ok.lo.2, ok.hi⟩) ?_⟩
    refine ⟨_, rfl, _, rfl, _, _, _, rfl, _, rfl, iteE (whole_in ok.lo) ?_⟩
    refine ⟨_, rfl, _, _, _, rfl, ?_⟩
    rw [whole_in ok.pr]
    exact k _ s12
def spSupply (K : PySem.W.Frag) : Sp := fun vs H Q _ => ∃ (v vh vi : V) (c : Cat) (x : Sup), vs = [v, vh, vi] ∧ Dp K H v x.d ∧ Dp K H vh (strsD c.hs) ∧ Dp K H vi (strsD c.its) ∧ x.Ok c ∧ ∀ H', Same H H' → Q (.bl true) H'
theorem sc_supply : FnScope ["thing", "houses", "items", "name", "house", "item", "day", "count"] ["thing", "houses", "items"] (defScope (tp 25)) := ⟨rfl, rfl, rfl, by decide +kernel, rfl, by decide +kernel, by decide +kernel⟩
theorem ok_supply (T : Tx K mg) (d_is_whole : Ok P w K mg base CX0 1 "is_whole" ["thing", "least", "most"] spWhole) (d_is_name : Ok P w K mg base CX0 1 "is_name" ["thing"] spName) : Ok P w K mg base CX0 2 "is_supply" ["thing", "houses", "items"] (spSupply K) := by
  have sc := sc_supply
  refine Ok.mk_ (i := 25) T (by decide +kernel) sc (fun _ _ _ _ _ _ us hl => match us, hl with | [_, _, _], _ => rfl) (fun vs H Q E h => ?_) (fun f cdv A outer s H vs Q E hr h => ?_)
  · obtain ⟨v, vh, vr, c, l, rfl, _⟩ := h
    rfl
  · obtain ⟨v, vh, vr, c, l, rfl, hd, hh, hrg, ok, k⟩ := h
    obtain ⟨a, rfl, hS⟩ := sup_at hd
    obtain ⟨ah, rfl, hH⟩ := strs_at hh
    obtain ⟨ar, rfl, hR⟩ := strs_at hrg
    refine ⟨_, pss_cons (ps_asg (pv 0) (k_pg_tup (K := K) rfl rfl (pgs_cons (pg_name (i := 3) sc.nd rfl (Or.inl rfl)) (pgs_cons (pg_name (i := 4) sc.nd rfl (Or.inl rfl)) (pgs_cons (pg_name (i := 5) sc.nd rfl (Or.inl rfl)) (pgs_cons (pg_name (i := 6) sc.nd rfl (Or.inl rfl)) (pgs_cons (pg_name (i := 7) sc.nd rfl (Or.inl rfl)) pgs_nil)))))))
      (pss_cons (ps_if (PW.pt (pw_or (pt_not (pt_val (pe_fn d_is_name (hr.mono (by decide)) pass0 (pa_cons (pv 3) pa_nil)))) (pw_or (pt_not (pt_val (pe_fn d_is_name (hr.mono (by decide)) pass0 (pa_cons (pv 4) pa_nil)))) (pw_or (pt_not (pt_val (pe_fn d_is_name (hr.mono (by decide)) pass0 (pa_cons (pv 5) pa_nil)))) (pw_or (pt_cmpR (k_op_notIn_seq (K := K) rfl) (pv 4) (pv 1) (by rfl)) (pw_or1 (pt_cmpR (k_op_notIn_seq (K := K) rfl) (pv 5) (pv 2) (by rfl))))))))
        (pss_one (ps_ret (pe_bl)))
        (pss_nil))
      (pss_one (ps_ret (pe_and (pe_fn d_is_whole (hr.mono (by decide)) pass0 (pa_cons (pv 6) (pa_cons (pe_int) (pa_cons (pe_ci T (x := "LAST_DAY") (i := 60) (by decide +kernel)) pa_nil)))) (pe_one (pe_fn d_is_whole (hr.mono (by decide)) pass0 (pa_cons (pv 7) (pa_cons (pe_int) (pa_cons (pe_int) pa_nil))))))))), ?_⟩
    refine ⟨_, rfl, a, _, rfl, hS, rfl, _, _, rfl, _, _, rfl, _, _, rfl, _, _, rfl, _, _, rfl, rfl, ?_⟩
    refine ⟨_, rfl, _, rfl, ok.nn, fun H1 s1 => ⟨_, rfl, iteF ⟨_, rfl, _, rfl, ok.hn, fun H2 s2 => ⟨_, rfl, iteF ⟨_, rfl, _, rfl, ok.itn, fun H3 s3 => ⟨_, rfl, iteF ?_⟩⟩⟩⟩⟩⟩
    have s13 := (s1.trans s2).trans s3
    refine ⟨_, rfl, _, rfl, ah, _, rfl, .inr (same_t s13 hH), rfl, flat_strs _, _, rfl, iteEf (ni_str ok.h) ?_⟩
    refine ⟨_, rfl, _, rfl, ar, _, rfl, .inr (same_t s13 hR), rfl, flat_strs _, _, rfl, iteEf (ni_str ok.it) ?_⟩
    refine ⟨_, rfl, _, _, _, rfl, _, rfl, iteE (whole_in ok.day) ?_⟩
    refine ⟨_, rfl, _, _, _, rfl, ?_⟩
    rw [whole_in ok.cnt]
    exact k _ s13
/-! ### is_catalog -/
theorem nw2 {xs : List V} {n : Nat} (h : xs.length = n) (hn : 2 < n) : ¬ (HT.sIx xs.length 0 none = 0 ∧ HT.sIx xs.length xs.length (some 2) = xs.length) := by
  rw [h]
  intro q
  have q2 := q.2
  rw [show (2 : Int) = ((2 : Nat) : Int) from rfl, HT.sIx_nat] at q2
  omega
def spCatalog (K : PySem.W.Frag) : Sp := fun vs H Q _ => ∃ (v : V) (c : Cat), vs = [v] ∧ Dp K H v c.d ∧ c.Ok ∧ ∀ H', Same H H' → Q (.bl true) H'
theorem sc_catalog : FnScope ["thing", "houses", "regions", "items", "lanes", "supplies", "part", "lane", "supply"] ["thing"] (defScope (tp 26)) := ⟨rfl, rfl, rfl, by decide +kernel, rfl, by decide +kernel, by decide +kernel⟩
theorem ok_catalog (T : Tx K mg) (d_are_names : Ok P w K mg base CX0 2 "are_names" ["thing", "most"] (spNames K)) (d_are_rows : Ok P w K mg base CX0 1 "are_rows" ["thing", "most", "width"] (spRows K)) (d_are_unlike : Ok P w K mg base CX0 1 "are_unlike" ["things"] (spUnlike K))
    (d_is_lane : Ok P w K mg base CX0 2 "is_lane" ["thing", "houses", "regions"] (spLane K)) (d_is_supply : Ok P w K mg base CX0 2 "is_supply" ["thing", "houses", "items"] (spSupply K)) : Ok P w K mg base CX0 3 "is_catalog" ["thing"] (spCatalog K) := by
  have sc := sc_catalog
  refine Ok.mk_ (i := 26) T (by decide +kernel) sc (fun _ _ _ _ _ _ us hl => match us, hl with | [_], _ => rfl) (fun vs H Q E h => ?_) (fun f cdv A outer s H vs Q E hr h => ?_)
  · obtain ⟨v, c, rfl, _⟩ := h
    rfl
  · obtain ⟨v, c, rfl, hd, ok, k⟩ := h
    obtain ⟨a, vh, vr, vi, vl, vs, rfl, C⟩ := cat_at hd
    obtain ⟨al, xl, rfl, hL, hAL⟩ := Dp.tup_inv C.l
    obtain ⟨as, xs, rfl, hSu, hAS⟩ := Dp.tup_inv C.s
    have ll := hAL.length
    have ls := hAS.length
    rw [List.length_map] at ll ls
    have lln := ok.ln
    have lsn := ok.sn
    refine ⟨_, pss_cons (ps_if (PW.pt (pw_or (pt_not (pt_val (pe_callB (k_isi (K := K) rfl) (by rfl) (T.free _ (by decide +kernel)) (by decide +kernel) (pa_cons (pv 0) (pa_cons (pe_bltn (by rfl) (T.free _ (by decide +kernel)) (by decide +kernel) (v := .ty "tuple") rfl) pa_nil))))) (pw_or1 (pt_cmpR op_ne (pe_callB (k_len (K := K) rfl) (by rfl) (T.free _ (by decide +kernel)) (by decide +kernel) (pa_cons (pv 0) pa_nil)) (pe_int) (nomark _)))))
        (pss_one (ps_ret (pe_bl)))
        (pss_nil))
      (pss_cons (ps_asg (pv 0) (k_pg_tup (K := K) rfl rfl (pgs_cons (pg_name (i := 1) sc.nd rfl (Or.inr rfl)) (pgs_cons (pg_name (i := 2) sc.nd rfl (Or.inr rfl)) (pgs_cons (pg_name (i := 3) sc.nd rfl (Or.inr rfl)) (pgs_cons (pg_name (i := 4) sc.nd rfl (Or.inl rfl)) (pgs_cons (pg_name (i := 5) sc.nd rfl (Or.inl rfl)) pgs_nil)))))))
      (pss_cons (ps_if (pt_not (pt_val (pe_callB (k_all (K := K) rfl rfl) (by rfl) (T.free _ (by decide +kernel)) (by decide +kernel) (pa_cons (pe_lc (own := [("part", 6)]) rfl sc.nd (pi_tup (pe_tup (pa_cons (pv 1) (pa_cons (pv 2) (pa_cons (pv 3) pa_nil))))) (blkOk_by (own := [("part", 6)]) (N := ["thing", "houses", "regions", "items", "lanes", "supplies", "part", "lane", "supply"]) (sc := defScope (tp 26)) (by decide +kernel)) (fun _ _ _ _ _ => pg_name (i := 6) sc.nd rfl (Or.inl rfl)) (fun _ _ _ _ _ => pts_nil) (fun _ _ _ _ _ => pe_fn d_are_names (hr.mono (by decide)) pass0 (pa_cons (pv 6) (pa_cons (pe_ci T (x := "MOST_PLACES") (i := 5) (by decide +kernel)) pa_nil)))) pa_nil))))
        (pss_one (ps_ret (pe_bl)))
        (pss_nil))
      (pss_cons (ps_if (PW.pt (pw_or (pt_not (pt_val (pe_fn d_are_rows (hr.mono (by decide)) pass0 (pa_cons (pv 4) (pa_cons (pe_ci T (x := "MOST_LANES") (i := 20) (by decide +kernel)) (pa_cons (pe_int) pa_nil)))))) (pw_or1 (pt_not (pt_val (pe_fn d_are_rows (hr.mono (by decide)) pass0 (pa_cons (pv 5) (pa_cons (pe_ci T (x := "MOST_SUPPLIES") (i := 14) (by decide +kernel)) (pa_cons (pe_int) pa_nil)))))))))
        (pss_one (ps_ret (pe_bl)))
        (pss_nil))
      (pss_cons (ps_if (pt_not (pt_val (pe_callB (k_all (K := K) rfl rfl) (by rfl) (T.free _ (by decide +kernel)) (by decide +kernel) (pa_cons (pe_lc (own := [("lane", 7)]) rfl sc.nd (pi_tup (pv 4)) (blkOk_by (own := [("lane", 7)]) (N := ["thing", "houses", "regions", "items", "lanes", "supplies", "part", "lane", "supply"]) (sc := defScope (tp 26)) (by decide +kernel)) (fun _ _ _ _ _ => pg_name (i := 7) sc.nd rfl (Or.inl rfl)) (fun _ _ _ _ _ => pts_nil) (fun _ _ _ _ _ => pe_fn d_is_lane (hr.mono (by decide)) pass0 (pa_cons (pv 7) (pa_cons (pv 1) (pa_cons (pv 2) pa_nil))))) pa_nil))))
        (pss_one (ps_ret (pe_bl)))
        (pss_nil))
      (pss_cons (ps_if (pt_not (pt_val (pe_callB (k_all (K := K) rfl rfl) (by rfl) (T.free _ (by decide +kernel)) (by decide +kernel) (pa_cons (pe_lc (own := [("supply", 8)]) rfl sc.nd (pi_tup (pv 5)) (blkOk_by (own := [("supply", 8)]) (N := ["thing", "houses", "regions", "items", "lanes", "supplies", "part", "lane", "supply"]) (sc := defScope (tp 26)) (by decide +kernel)) (fun _ _ _ _ _ => pg_name (i := 8) sc.nd rfl (Or.inl rfl)) (fun _ _ _ _ _ => pts_nil) (fun _ _ _ _ _ => pe_fn d_is_supply (hr.mono (by decide)) pass0 (pa_cons (pv 8) (pa_cons (pv 1) (pa_cons (pv 3) pa_nil))))) pa_nil))))
        (pss_one (ps_ret (pe_bl)))
        (pss_nil))
      (pss_one (ps_ret (pe_and (pe_fn d_are_unlike (hr.mono (by decide)) pass0 (pa_cons (pe_lc (own := [("lane", 7)]) rfl sc.nd (pi_tup (pv 4)) (blkOk_by (own := [("lane", 7)]) (N := ["thing", "houses", "regions", "items", "lanes", "supplies", "part", "lane", "supply"]) (sc := defScope (tp 26)) (by decide +kernel)) (fun _ _ _ _ _ => pg_name (i := 7) sc.nd rfl (Or.inl rfl)) (fun _ _ _ _ _ => pts_nil) (fun _ _ _ _ _ => pe_slice (k_sl_tup (K := K) rfl) (pv 7) po_none (po_some (pe_int)))) pa_nil)) (pe_one (pe_fn d_are_unlike (hr.mono (by decide)) pass0 (pa_cons (pe_lc (own := [("supply", 8)]) rfl sc.nd (pi_tup (pv 5)) (blkOk_by (own := [("supply", 8)]) (N := ["thing", "houses", "regions", "items", "lanes", "supplies", "part", "lane", "supply"]) (sc := defScope (tp 26)) (by decide +kernel)) (fun _ _ _ _ _ => pg_name (i := 8) sc.nd rfl (Or.inl rfl)) (fun _ _ _ _ _ => pts_nil) (fun _ _ _ _ _ => pe_ix (k_ix_tup (K := K) rfl) (pv 8) (pe_int) (fun _ _ => rfl))) pa_nil))))))))))), ?_⟩
    refine ⟨_, rfl, _, _, _, _, true, rfl, .ty _, tyT C.t, kit_ty (by decide +kernel), _, rfl, iteF ?_⟩
    refine ⟨_, rfl, _, _, rfl, .inr C.t, rfl, _, rfl, iteF ?_⟩
    refine ⟨_, rfl, a, _, rfl, C.t, rfl, _, _, rfl, _, _, rfl, _, _, rfl, _, _, rfl, _, _, rfl, rfl, ?_⟩
    -- all names
    refine ⟨_, rfl, _, rfl, _, rfl, by show 3 ≤ sizeLine; decide, fun p hp => ⟨p, rfl, ⟨_, SqT.of upd_same⟩, ?_⟩⟩
    have sp : Same H (upd H p (.tup [vh, vr, vi])) := same_new hp
    refine lc_gen (walk_tup (xs := [vh, vr, vi])) (fun _ => some (.bl true)) (by show 3 ≤ 1000; decide) (fun H1 s1 => same_t s1 (SqT.of upd_same)) (fun i y H1 H2 Rn Ry hi s1 hY hn hy => ?_) (fun D H1 hD s1 h1 => ?_)
    · obtain ⟨rfl, hx⟩ := hY
      have s01 := sp.trans s1
      obtain ⟨l, hl, hok⟩ : ∃ l, Dp K H y (strsD l) ∧ namesOk l 5 := by
        match i, hx with
        | 0, hx => cases hx; exact ⟨_, C.h, ok.hs⟩
        | 1, hx => cases hx; exact ⟨_, C.r, ok.rs⟩
        | 2, hx => cases hx; exact ⟨_, C.i, ok.its⟩
      exact ⟨rfl, _, rfl, _, l, 5, rfl, hl.same s01, hok, by decide, fun H4 s4 => hy _ rfl _ s4⟩
    have s01 := sp.trans s1
    rw [fm_true] at h1
    refine ⟨D, _, rfl, SqL.of h1, _, rfl, iteEf (by rw [all_rep]; rfl) ?_⟩
    -- rows
    refine ⟨_, rfl, _, c.lanes.map Lane.d, 20, 5, rfl, C.l.same s01, by rw [List.length_map]; exact lln, by decide, fun d hd => ?_, fun H2 s2 => ⟨_, rfl, iteF ?_⟩⟩
    · obtain ⟨l, _, rfl⟩ := List.mem_map.mp hd
      exact ⟨_, rfl, rfl⟩
    have s02 := s01.trans s2
    refine ⟨_, rfl, _, c.sups.map Sup.d, 14, 5, rfl, C.s.same s02, by rw [List.length_map]; exact lsn, by decide, fun d hd => ?_, fun H3 s3 => ⟨_, rfl, iteF ?_⟩⟩
    · obtain ⟨l, _, rfl⟩ := List.mem_map.mp hd
      exact ⟨_, rfl, rfl⟩
    have s03 := s02.trans s3
    -- lanes
    refine ⟨_, rfl, al, rfl, ⟨_, same_t s03 hL⟩, ?_⟩
    refine lc_gen (walk_tup (xs := xl)) (fun _ => some (.bl true)) (by omega) (fun H4 s4 => same_t (s03.trans s4) hL) (fun i y H4 H5 Rn Ry hi s4 hY hn hy => ?_) (fun D2 H4 hD2 s4 h4 => ?_)
    · obtain ⟨rfl, hx⟩ := hY
      have s04 := s03.trans s4
      obtain ⟨d, hd1, hd2⟩ := hAL.get' hx
      obtain ⟨l, hl, rfl⟩ := List.mem_map.mp (List.mem_of_getElem? hd1)
      exact ⟨rfl, _, rfl, _, rfl, _, rfl, _, _, _, c, l, rfl, hd2.same s04, C.h.same s04, C.r.same s04, ok.lanes l hl, fun H6 s6 => hy _ rfl _ s6⟩
    have s04 := s03.trans s4
    rw [fm_true] at h4
    refine ⟨D2, _, rfl, SqL.of h4, _, rfl, iteEf (by rw [all_rep]; rfl) ?_⟩
    -- supplies
    refine ⟨_, rfl, as, rfl, ⟨_, same_t s04 hSu⟩, ?_⟩
    refine lc_gen (walk_tup (xs := xs)) (fun _ => some (.bl true)) (by omega) (fun H5 s5 => same_t (s04.trans s5) hSu) (fun i y H5 H6 Rn Ry hi s5 hY hn hy => ?_) (fun D3 H5 hD3 s5 h5 => ?_)
    · obtain ⟨rfl, hx⟩ := hY
      have s05 := s04.trans s5
      obtain ⟨d, hd1, hd2⟩ := hAS.get' hx
      obtain ⟨l, hl, rfl⟩ := List.mem_map.mp (List.mem_of_getElem? hd1)
      exact ⟨rfl, _, rfl, _, rfl, _, rfl, _, _, _, c, l, rfl, hd2.same s05, C.h.same s05, C.i.same s05, ok.sups l hl, fun H7 s7 => hy _ rfl _ s7⟩
    have s05 := s04.trans s5
    rw [fm_true] at h5
    refine ⟨D3, _, rfl, SqL.of h5, _, rfl, iteEf (by rw [all_rep]; rfl) ?_⟩
    -- unlike lanes
    refine ⟨_, rfl, al, rfl, ⟨_, same_t s05 hL⟩, ?_⟩
    refine lc_dat (K := K) (walk_tup (xs := xl)) (fun i => c.lanes[i]?.map fun l => .tuple [.str l.h, .str l.r]) (fun i d _ e => ?_) (by omega) (fun H6 s6 => same_t (s05.trans s6) hL) (fun i y H6 H7 Rn Ry hi s6 hY hn hy => ?_) (fun D4 acc H6 hD4 s6 h6 h6d => ?_)
    · obtain ⟨l, _, rfl⟩ := Option.map_eq_some_iff.mp e
      rfl
    · obtain ⟨rfl, hx⟩ := hY
      have s06 := s05.trans s6
      obtain ⟨d, hd1, hd2⟩ := hAL.get' hx
      rw [List.getElem?_map] at hd1
      obtain ⟨l, hl, rfl⟩ := Option.map_eq_some_iff.mp hd1
      obtain ⟨b, rfl, hb⟩ := lane_at hd2
      refine ⟨rfl, _, rfl, _, rfl, b, _, rfl, same_t s06 hb, nw2 (n := 5) rfl (by decide), fun q hq => ?_⟩
      refine hy (.tuple [.str l.h, .str l.r]) (by rw [hl]; rfl) _ _ (same_new hq) (.tup (SqT.of upd_same) ?_)
      exact .cons (.str _) (.cons (.str _) .nil)
    have s06 := s05.trans s6
    have e6 : (List.range xl.length).filterMap (fun i => c.lanes[i]?.map fun l => PyData.tuple [.str l.h, .str l.r]) = c.lanes.map fun l => PyData.tuple [.str l.h, .str l.r] := by
      rw [ll]
      exact fm_get_map _ _
    rw [e6] at h6d
    refine ⟨D4, c.lanes.map fun l => PyData.tuple [.str l.h, .str l.r], rfl, .lst (SqL.of h6) h6d, by rw [List.length_map]; omega, fun d hd => ?_, ?_, fun H7 s7 => ⟨_, rfl, iteT ?_⟩⟩
    · obtain ⟨l, hl, rfl⟩ := List.mem_map.mp hd
      have lo := ok.lanes l hl
      exact (Sm.tup (Sm.cons (Sm.name lo.hn) (Sm.cons (Sm.name lo.rn) Sm.nil))).mono (by decide)
    · have q := ok.lnd
      have e : (c.lanes.map fun l => PyData.tuple [.str l.h, .str l.r]) = (c.lanes.map fun l => (l.h, l.r)).map fun p => PyData.tuple [.str p.1, .str p.2] := by rw [List.map_map]; rfl
      rw [e]
      refine List.Pairwise.map _ (fun a b h z => h ?_) q
      injection z with z
      injection z with z1 z2
      injection z1 with z1
      injection z2 with z2
      injection z2 with z2
      exact Prod.ext z1 z2
    have s07 := s06.trans s7
    -- unlike supplies
    refine ⟨_, rfl, as, rfl, ⟨_, same_t s07 hSu⟩, ?_⟩
    refine lc_gen (walk_tup (xs := xs)) (fun i => c.sups[i]?.map fun x => .str x.n) (by omega) (fun H8 s8 => same_t (s07.trans s8) hSu) (fun i y H8 H9 Rn Ry hi s8 hY hn hy => ?_) (fun D5 H8 hD5 s8 h8 => ?_)
    · obtain ⟨rfl, hx⟩ := hY
      have s08 := s07.trans s8
      obtain ⟨d, hd1, hd2⟩ := hAS.get' hx
      rw [List.getElem?_map] at hd1
      obtain ⟨l, hl, rfl⟩ := Option.map_eq_some_iff.mp hd1
      obtain ⟨b, rfl, hb⟩ := sup_at hd2
      exact ⟨rfl, _, rfl, b, _, _, _, rfl, rfl, same_t s08 hb, rfl, hy _ (by rw [hl]; rfl) _ (Same.refl _)⟩
    have e8 : (List.range xs.length).filterMap (fun i => c.sups[i]?.map fun x => V.str x.n) = (c.sups.map Sup.n).map V.str := by
      rw [ls, fm_get_map, List.map_map]
      rfl
    rw [e8] at h8
    refine ⟨D5, (c.sups.map Sup.n).map .str, rfl, .lst (SqL.of h8) (DpAll.ofStrs _), by rw [List.length_map, List.length_map]; omega, fun d hd => ?_, ?_, fun H9 s9 => k _ ((s07.trans s8).trans s9)⟩
    · obtain ⟨z, hz, rfl⟩ := List.mem_map.mp hd
      obtain ⟨l, hl, rfl⟩ := List.mem_map.mp hz
      exact (Sm.name (ok.sups l hl).nn).mono (by decide)
    · exact List.Pairwise.map _ (fun a b h q => h (PyData.str.inj q)) ok.snd
end
end KS
set_option Elab.async false
set_option linter.all false
set_option maxRecDepth 100000
set_option maxHeartbeats 4000000
/-! catalogs: need_catalog, is_wish, is_order, need_order, need_asked, need_day. -/
namespace KS
open PySem PySem.Spec PyProof.Rows L2
section
variable {P : Program} {w : World} {K : PySem.W.Frag} {mg : Str → Option Value} {base : Heap}
def spNeedCat (K : PySem.W.Frag) : Sp := fun vs H Q _ => ∃ (v : V) (c : Cat), vs = [v] ∧ Dp K H v c.d ∧ c.Ok ∧ ∀ H', Same H H' → Q .non H'
theorem sc_needcat : FnScope ["catalog"] ["catalog"] (defScope (tp 27)) := ⟨rfl, rfl, rfl, by decide +kernel, rfl, by decide +kernel, by decide +kernel⟩
theorem ok_needcat (T : Tx K mg) (d_is_catalog : Ok P w K mg base CX0 3 "is_catalog" ["thing"] (spCatalog K)) : Ok P w K mg base CX0 4 "need_catalog" ["catalog"] (spNeedCat K) := by
  have sc := sc_needcat
  refine Ok.mk_ (i := 27) T (by decide +kernel) sc (fun _ _ _ _ _ _ us hl => match us, hl with | [_], _ => rfl) (fun vs H Q E h => ?_) (fun f cdv A outer s H vs Q E hr h => ?_)
  · obtain ⟨v, c, rfl, _⟩ := h
    rfl
  · obtain ⟨v, c, rfl, hd, ok, k⟩ := h
    refine ⟨_, pss_one (ps_if (pt_not (pt_val (pe_fn d_is_catalog (hr.mono (by decide)) pass0 (pa_cons (pv 0) pa_nil))))
        (pss_one (ps_never))
        (pss_nil)), ?_⟩
    exact ⟨_, rfl, _, c, rfl, hd, ok, fun H1 s1 => ⟨_, rfl, iteF (k _ s1)⟩⟩
/-! ### is_wish -/
def spWish (K : PySem.W.Frag) : Sp := fun vs H Q _ => ∃ (v vi : V) (c : Cat) (x : Wish), vs = [v, vi] ∧ Dp K H v x.d ∧ Dp K H vi (strsD c.its) ∧ x.Ok c ∧ ∀ H', Same H H' → Q (.bl true) H'
theorem sc_wish : FnScope ["thing", "items", "one"] ["thing", "items"] (defScope (tp 28)) := ⟨rfl, rfl, rfl, by decide +kernel, rfl, by decide +kernel, by decide +kernel⟩
theorem ok_wish (T : Tx K mg) (d_are_names : Ok P w K mg base CX0 2 "are_names" ["thing", "most"] (spNames K)) (d_is_whole : Ok P w K mg base CX0 1 "is_whole" ["thing", "least", "most"] spWhole) : Ok P w K mg base CX0 3 "is_wish" ["thing", "items"] (spWish K) := by
  have sc := sc_wish
  refine Ok.mk_ (i := 28) T (by decide +kernel) sc (fun _ _ _ _ _ _ us hl => match us, hl with | [_, _], _ => rfl) (fun vs H Q E h => ?_) (fun f cdv A outer s H vs Q E hr h => ?_)
  · obtain ⟨v, vi, c, x, rfl, _⟩ := h
    rfl
  · obtain ⟨v, vi, c, x, rfl, hd, hi, ok, k⟩ := h
    obtain ⟨a, ai, rfl, hS, hI⟩ := wish_at hd
    obtain ⟨b, rfl, hB⟩ := strs_at hI
    obtain ⟨bi, rfl, hBi⟩ := strs_at hi
    have hlen : x.its.length ≤ 3 := ok.names.2.1
    have hl : (x.its.map V.str).length = x.its.length := List.length_map ..
    refine ⟨_, pss_cons (ps_if (PW.pt (pw_or (pt_not (pt_val (pe_callB (k_isi (K := K) rfl) (by rfl) (T.free _ (by decide +kernel)) (by decide +kernel) (pa_cons (pv 0) (pa_cons (pe_bltn (by rfl) (T.free _ (by decide +kernel)) (by decide +kernel) (v := .ty "tuple") rfl) pa_nil))))) (pw_or (pt_cmpR op_ne (pe_callB (k_len (K := K) rfl) (by rfl) (T.free _ (by decide +kernel)) (by decide +kernel) (pa_cons (pv 0) pa_nil)) (pe_int) (nomark _)) (pw_or1 (pt_not (pt_val (pe_fn d_are_names (hr.mono (by decide)) pass0 (pa_cons (pe_ix (k_ix_tup (K := K) rfl) (pv 0) (pe_int) (fun _ _ => rfl)) (pa_cons (pe_ci T (x := "MOST_WISHES") (i := 3) (by decide +kernel)) pa_nil)))))))))
        (pss_one (ps_ret (pe_bl)))
        (pss_nil))
      (pss_one (ps_ret (pe_and (pe_callB (k_all (K := K) rfl rfl) (by rfl) (T.free _ (by decide +kernel)) (by decide +kernel) (pa_cons (pe_lc (own := [("one", 2)]) rfl sc.nd (pi_tup (pe_ix (k_ix_tup (K := K) rfl) (pv 0) (pe_int) (fun _ _ => rfl))) (blkOk_by (own := [("one", 2)]) (N := ["thing", "items", "one"]) (sc := defScope (tp 28)) (by decide +kernel)) (fun _ _ _ _ _ => pg_name (i := 2) sc.nd rfl (Or.inl rfl)) (fun _ _ _ _ _ => pts_nil) (fun _ _ _ _ _ => pe_cmpR (k_op_in_seq (K := K) rfl) (pv 2) (pv 1) (by rfl))) pa_nil)) (pe_one (pe_fn d_is_whole (hr.mono (by decide)) pass0 (pa_cons (pe_ix (k_ix_tup (K := K) rfl) (pv 0) (pe_int) (fun _ _ => rfl)) (pa_cons (pe_int) (pa_cons (pe_int) pa_nil)))))))), ?_⟩
    refine ⟨_, rfl, _, _, _, _, true, rfl, .ty _, tyT hS, kit_ty (by decide +kernel), _, rfl, iteF ?_⟩
    refine ⟨_, rfl, _, _, rfl, .inr hS, rfl, _, rfl, iteF ?_⟩
    refine ⟨_, rfl, a, _, _, _, rfl, rfl, hS, rfl, _, x.its, 3, rfl, hI, ok.names, by decide, fun H1 s1 => ⟨_, rfl, iteF ?_⟩⟩
    refine ⟨_, rfl, a, _, _, _, rfl, rfl, same_t s1 hS, rfl, b, rfl, ⟨_, same_t s1 hB⟩, ?_⟩
    refine lc_gen (walk_tup (xs := x.its.map V.str)) (fun _ => some (.bl true)) (by omega) (fun H2 s2 => same_t (s1.trans s2) hB) (fun i y H2 H3 Rn Ry hi2 s2 hY hn hy => ?_) (fun D H2 hD s2 h2 => ?_)
    · obtain ⟨rfl, hx⟩ := hY
      obtain ⟨z, hz, e⟩ := List.mem_map.mp (List.mem_of_getElem? hx)
      subst e
      refine ⟨rfl, _, rfl, _, rfl, bi, _, rfl, .inr (same_t (s1.trans s2) hBi), rfl, flat_strs _, ?_⟩
      rw [is_str, decide_eq_true (ok.its z hz)]
      exact hy _ rfl _ (Same.refl _)
    rw [fm_true] at h2
    refine ⟨D, _, rfl, SqL.of h2, _, rfl, iteE (all_rep _) ?_⟩
    refine ⟨_, rfl, a, _, _, _, rfl, rfl, same_t (s1.trans s2) hS, rfl, _, _, _, rfl, ?_⟩
    rw [whole_in ok.cnt]
    exact k _ (s1.trans s2)
/-! ### is_order -/
def spIsOrder (K : PySem.W.Frag) : Sp := fun vs H Q _ => ∃ (vc v : V) (c : Cat), vs = [vc, v] ∧ Dp K H vc c.d ∧ ((∃ o : Order, Dp K H v o.d ∧ o.Ok c ∧ ∀ H', Same H H' → Q (.bl true) H') ∨ ∃ i, v = .int i ∧ Q (.bl false) H)
theorem sc_isorder : FnScope ["catalog", "thing", "wish"] ["catalog", "thing"] (defScope (tp 29)) := ⟨rfl, rfl, rfl, by decide +kernel, rfl, by decide +kernel, by decide +kernel⟩
theorem ok_isorder (T : Tx K mg) (d_is_name : Ok P w K mg base CX0 1 "is_name" ["thing"] spName) (d_is_wish : Ok P w K mg base CX0 3 "is_wish" ["thing", "items"] (spWish K)) (d_is_whole : Ok P w K mg base CX0 1 "is_whole" ["thing", "least", "most"] spWhole) :
    Ok P w K mg base CX0 4 "is_order" ["catalog", "thing"] (spIsOrder K) := by
  have sc := sc_isorder
  refine Ok.mk_ (i := 29) T (by decide +kernel) sc (fun _ _ _ _ _ _ us hl => match us, hl with | [_, _], _ => rfl) (fun vs H Q E h => ?_) (fun f cdv A outer s H vs Q E hr h => ?_)
  · obtain ⟨vc, v, c, rfl, _⟩ := h
    rfl
  · obtain ⟨vc, v, c, rfl, hc, h⟩ := h
    obtain ⟨ac, vh, vr, vi, vl, vs, rfl, C⟩ := cat_at hc
    refine ⟨_, pss_cons (ps_if (PW.pt (pw_or (pt_not (pt_val (pe_callB (k_isi (K := K) rfl) (by rfl) (T.free _ (by decide +kernel)) (by decide +kernel) (pa_cons (pv 1) (pa_cons (pe_bltn (by rfl) (T.free _ (by decide +kernel)) (by decide +kernel) (v := .ty "tuple") rfl) pa_nil))))) (pw_or (pt_cmpR op_ne (pe_callB (k_len (K := K) rfl) (by rfl) (T.free _ (by decide +kernel)) (by decide +kernel) (pa_cons (pv 1) pa_nil)) (pe_int) (nomark _)) (pw_or (pt_not (pt_val (pe_fn d_is_name (hr.mono (by decide)) pass0 (pa_cons (pe_ix (k_ix_tup (K := K) rfl) (pv 1) (pe_int) (fun _ _ => rfl)) pa_nil)))) (pw_or1 (pt_not (pt_val (pe_fn d_is_name (hr.mono (by decide)) pass0 (pa_cons (pe_ix (k_ix_tup (K := K) rfl) (pv 1) (pe_int) (fun _ _ => rfl)) pa_nil)))))))))
        (pss_one (ps_ret (pe_bl)))
        (pss_nil))
      (pss_cons (ps_if (PW.pt (pw_or (pt_cmpR (k_op_notIn_seq (K := K) rfl) (pe_ix (k_ix_tup (K := K) rfl) (pv 1) (pe_int) (fun _ _ => rfl)) (pe_ix (k_ix_tup (K := K) rfl) (pv 0) (pe_ci T (x := "REGIONS") (i := 1) (by decide +kernel)) (fun _ _ => rfl)) (by rfl)) (pw_or (pt_not (pt_val (pe_callB (k_isi (K := K) rfl) (by rfl) (T.free _ (by decide +kernel)) (by decide +kernel) (pa_cons (pe_ix (k_ix_tup (K := K) rfl) (pv 1) (pe_int) (fun _ _ => rfl)) (pa_cons (pe_bltn (by rfl) (T.free _ (by decide +kernel)) (by decide +kernel) (v := .ty "tuple") rfl) pa_nil))))) (pw_or1 (pt_not (pt_chain op_le op_le (pe_int) (pe_callB (k_len (K := K) rfl) (by rfl) (T.free _ (by decide +kernel)) (by decide +kernel) (pa_cons (pe_ix (k_ix_tup (K := K) rfl) (pv 1) (pe_int) (fun _ _ => rfl)) pa_nil)) (pe_ci T (x := "MOST_WISHES") (i := 3) (by decide +kernel))))))))
        (pss_one (ps_ret (pe_bl)))
        (pss_nil))
      (pss_cons (ps_if (pt_not (pt_val (pe_callB (k_all (K := K) rfl rfl) (by rfl) (T.free _ (by decide +kernel)) (by decide +kernel) (pa_cons (pe_lc (own := [("wish", 2)]) rfl sc.nd (pi_tup (pe_ix (k_ix_tup (K := K) rfl) (pv 1) (pe_int) (fun _ _ => rfl))) (blkOk_by (own := [("wish", 2)]) (N := ["catalog", "thing", "wish"]) (sc := defScope (tp 29)) (by decide +kernel)) (fun _ _ _ _ _ => pg_name (i := 2) sc.nd rfl (Or.inl rfl)) (fun _ _ _ _ _ => pts_nil) (fun _ _ _ _ _ => pe_fn d_is_wish (hr.mono (by decide)) pass0 (pa_cons (pv 2) (pa_cons (pe_ix (k_ix_tup (K := K) rfl) (pv 0) (pe_ci T (x := "ITEMS") (i := 2) (by decide +kernel)) (fun _ _ => rfl)) pa_nil)))) pa_nil))))
        (pss_one (ps_ret (pe_bl)))
        (pss_nil))
      (pss_one (ps_ret (pe_and (pe_fn d_is_whole (hr.mono (by decide)) pass0 (pa_cons (pe_ix (k_ix_tup (K := K) rfl) (pv 1) (pe_int) (fun _ _ => rfl)) (pa_cons (pe_int) (pa_cons (pe_ci T (x := "LAST_DAY") (i := 60) (by decide +kernel)) pa_nil)))) (pe_one (pe_fn d_is_whole (hr.mono (by decide)) pass0 (pa_cons (pe_ix (k_ix_tup (K := K) rfl) (pv 1) (pe_int) (fun _ _ => rfl)) (pa_cons (pe_int) (pa_cons (pe_int) pa_nil)))))))))), ?_⟩
    rcases h with ⟨o, hd, ok, k⟩ | ⟨i, rfl, k⟩
    · obtain ⟨a, aw, rfl, hS, hW⟩ := order_at hd
      obtain ⟨b, xw, rfl, hB, hBA⟩ := Dp.tup_inv hW
      have lw := hBA.length
      rw [List.length_map] at lw
      have lw2 := ok.wn
      obtain ⟨ar, rfl, hR⟩ := strs_at C.r
      refine ⟨_, rfl, _, _, _, _, true, rfl, .ty _, tyT hS, kit_ty (by decide +kernel), _, rfl, iteF ?_⟩
      refine ⟨_, rfl, _, _, rfl, .inr hS, rfl, _, rfl, iteF ?_⟩
      refine ⟨_, rfl, a, _, _, _, rfl, rfl, hS, rfl, _, rfl, ok.nn, fun H1 s1 => ⟨_, rfl, iteF ?_⟩⟩
      refine ⟨_, rfl, a, _, _, _, rfl, rfl, same_t s1 hS, rfl, _, rfl, ok.rn, fun H2 s2 => ⟨_, rfl, iteF ?_⟩⟩
      have s02 := s1.trans s2
      refine ⟨_, rfl, a, _, _, _, rfl, rfl, same_t s02 hS, rfl, _, rfl, ac, _, _, _, rfl, rfl, same_t s02 C.t, rfl, ar, _, rfl, .inr (same_t s02 hR), rfl, flat_strs _, _, rfl, iteEf (ni_str ok.r) ?_⟩
      refine ⟨_, rfl, a, _, _, _, rfl, rfl, same_t s02 hS, rfl, _, _, _, _, true, rfl, .ty _, tyT (same_t s02 hB), kit_ty (by decide +kernel), _, rfl, iteF ?_⟩
      refine ⟨_, rfl, a, _, _, _, rfl, rfl, same_t s02 hS, rfl, b, _, rfl, .inr (same_t s02 hB), _, _, rfl, rfl, _, rfl, iteD (by omega) ⟨_, _, rfl, rfl, _, rfl, iteEf ?_ ?_⟩⟩
      · show (!decide (((xw.length : Nat) : Int) ≤ 3)) = false
        rw [decide_eq_true (by omega)]
        rfl
      refine ⟨_, rfl, a, _, _, _, rfl, rfl, same_t s02 hS, rfl, b, rfl, ⟨_, same_t s02 hB⟩, ?_⟩
      refine lc_gen (walk_tup (xs := xw)) (fun _ => some (.bl true)) (by omega) (fun H3 s3 => same_t (s02.trans s3) hB) (fun i y H3 H4 Rn Ry hi s3 hY hn hy => ?_) (fun D H3 hD s3 h3 => ?_)
      · obtain ⟨rfl, hx⟩ := hY
        have s03 := s02.trans s3
        obtain ⟨d, hd1, hd2⟩ := hBA.get' hx
        obtain ⟨x, hx2, rfl⟩ := List.mem_map.mp (List.mem_of_getElem? hd1)
        exact ⟨rfl, _, rfl, _, rfl, ac, _, _, _, rfl, rfl, same_t s03 C.t, rfl, _, _, c, x, rfl, hd2.same s03, C.i.same s03, ok.ws x hx2, fun H5 s5 => hy _ rfl _ s5⟩
      have s03 := s02.trans s3
      rw [fm_true] at h3
      refine ⟨D, _, rfl, SqL.of h3, _, rfl, iteEf (by rw [all_rep]; rfl) ?_⟩
      refine ⟨_, rfl, a, _, _, _, rfl, rfl, same_t s03 hS, rfl, _, _, _, rfl, _, rfl, iteE (whole_in ok.by_) ?_⟩
      refine ⟨_, rfl, a, _, _, _, rfl, rfl, same_t s03 hS, rfl, _, _, _, rfl, ?_⟩
      rw [whole_in ok.wo]
      exact k _ s03
    · exact ⟨_, rfl, _, _, _, _, false, rfl, .ty _, .base (.int _), kit_ty (by decide +kernel), _, rfl, iteT (iteT k)⟩
/-! ### need_order -/
def spNeedOrder (K : PySem.W.Frag) : Sp := fun vs H Q E => ∃ (vc v : V) (c : Cat), vs = [vc, v] ∧ Dp K H vc c.d ∧ ((∃ o : Order, Dp K H v o.d ∧ o.Ok c ∧ ∀ H', Same H H' → Q .non H') ∨ ∃ i, v = .int i ∧ E (.ref (He.ga K "BadOrder")) none H)
theorem sc_needorder : FnScope ["catalog", "order"] ["catalog", "order"] (defScope (tp 30)) := ⟨rfl, rfl, rfl, by decide +kernel, rfl, by decide +kernel, by decide +kernel⟩
theorem ok_needorder (T : Tx K mg) (d_is_order : Ok P w K mg base CX0 4 "is_order" ["catalog", "thing"] (spIsOrder K)) : Ok P w K mg base (L2.CX P w) 5 "need_order" ["catalog", "order"] (spNeedOrder K) := by
  have sc := sc_needorder
  refine Ok.mkX (i := 30) T (by decide +kernel) sc (fun _ _ _ _ _ _ us hl => match us, hl with | [_, _], _ => rfl) (fun vs H Q E h => ?_) (fun f cdv A outer s H vs Q E hr h => ?_)
  · obtain ⟨vc, v, c, rfl, _⟩ := h
    rfl
  · obtain ⟨vc, v, c, rfl, hc, h⟩ := h
    refine ⟨_, pss_one (ps_if (pt_not (pt_val (pe_fn d_is_order (hr.mono (by decide)) pass0 (pa_cons (pv 0) (pa_cons (pv 1) pa_nil)))))
        (pss_one (ps_raise rfl (takes_of rfl rfl rfl rfl) (pmk_x T (x := "BadOrder") (by decide +kernel))))
        (pss_nil)), ?_⟩
    rcases h with ⟨o, hd, ok, k⟩ | ⟨i, rfl, k⟩
    · exact ⟨_, rfl, _, rfl, _, _, c, rfl, hc, .inl ⟨o, hd, ok, fun H1 s1 => ⟨_, rfl, iteF (k _ s1)⟩⟩⟩
    · exact ⟨_, rfl, _, rfl, _, _, c, rfl, hc, .inr ⟨i, rfl, _, rfl, iteT k⟩⟩
/-! ### need_day: of days -/
def spNeedDay : Sp := fun vs H Q _ => ∃ d : Int, vs = [.int d] ∧ 0 ≤ d ∧ d ≤ 60 ∧ Q .non H
theorem sc_needday : FnScope ["day"] ["day"] (defScope (tp 35)) := ⟨rfl, rfl, rfl, by decide +kernel, rfl, by decide +kernel, by decide +kernel⟩
theorem ok_needday (T : Tx K mg) (d_is_whole : Ok P w K mg base CX0 1 "is_whole" ["thing", "least", "most"] spWhole) : Ok P w K mg base CX0 2 "need_day" ["day"] spNeedDay := by
  have sc := sc_needday
  refine Ok.mk_ (i := 35) T (by decide +kernel) sc (fun _ _ _ _ _ _ us hl => match us, hl with | [_], _ => rfl) (fun vs H Q E h => ?_) (fun f cdv A outer s H vs Q E hr h => ?_)
  · obtain ⟨d, rfl, _⟩ := h
    rfl
  · obtain ⟨d, rfl, h0, h1, k⟩ := h
    refine ⟨_, pss_one (ps_if (pt_not (pt_val (pe_fn d_is_whole (hr.mono (by decide)) pass0 (pa_cons (pv 0) (pa_cons (pe_int) (pa_cons (pe_ci T (x := "LAST_DAY") (i := 60) (by decide +kernel)) pa_nil))))))
        (pss_one (ps_never))
        (pss_nil)), ?_⟩
    exact ⟨_, rfl, _, _, _, rfl, _, rfl, iteEf (by rw [whole_in ⟨h0, h1⟩]; rfl) k⟩
/-! ### need_asked -/
def spNeedAsked (K : PySem.W.Frag) : Sp := fun vs H Q E => ∃ (vc vi : V) (c : Cat) (its : List Str) (r : Str), vs = [vc, vi, .str r] ∧ Dp K H vc c.d ∧ Dp K H vi (strsD its) ∧ namesOk its 3 ∧ nameOk r = true ∧ r ∈ c.rs ∧
  ((∀ s ∈ its, s ∈ c.its) → ∀ H', Same H H' → Q .non H') ∧ ((¬ ∀ s ∈ its, s ∈ c.its) → ∀ H', Same H H' → E (.ref (He.ga K "BadItem")) none H')
theorem sc_needasked : FnScope ["catalog", "items", "region", "one"] ["catalog", "items", "region"] (defScope (tp 34)) := ⟨rfl, rfl, rfl, by decide +kernel, rfl, by decide +kernel, by decide +kernel⟩
theorem ok_needasked (T : Tx K mg) (d_are_names : Ok P w K mg base CX0 2 "are_names" ["thing", "most"] (spNames K)) (d_is_name : Ok P w K mg base CX0 1 "is_name" ["thing"] spName) : Ok P w K mg base (L2.CX P w) 3 "need_asked" ["catalog", "items", "region"] (spNeedAsked K) := by
  have sc := sc_needasked
  refine Ok.mkX (i := 34) T (by decide +kernel) sc (fun _ _ _ _ _ _ us hl => match us, hl with | [_, _, _], _ => rfl) (fun vs H Q E h => ?_) (fun f cdv A outer s H vs Q E hr h => ?_)
  · obtain ⟨vc, vi, c, its, r, rfl, _⟩ := h
    rfl
  · obtain ⟨vc, vi, c, its, r, rfl, hc, hi, hnm, hr1, hr2, k1, k2⟩ := h
    obtain ⟨ac, vh, vr, vit, vl, vs, rfl, C⟩ := cat_at hc
    obtain ⟨b, rfl, hB⟩ := strs_at hi
    obtain ⟨ai, rfl, hI⟩ := strs_at C.i
    obtain ⟨ar, rfl, hR⟩ := strs_at C.r
    have hlen : its.length ≤ 3 := hnm.2.1
    have hl : (its.map V.str).length = its.length := List.length_map ..
    refine ⟨_, pss_cons (ps_if (PW.pt (pw_or (pt_not (pt_val (pe_fn d_are_names (hr.mono (by decide)) pass0 (pa_cons (pv 1) (pa_cons (pe_ci T (x := "MOST_WISHES") (i := 3) (by decide +kernel)) pa_nil))))) (pw_or1 (pt_not (pt_val (pe_callB (k_all (K := K) rfl rfl) (by rfl) (T.free _ (by decide +kernel)) (by decide +kernel) (pa_cons (pe_lc (own := [("one", 3)]) rfl sc.nd (pi_tup (pv 1)) (blkOk_by (own := [("one", 3)]) (N := ["catalog", "items", "region", "one"]) (sc := defScope (tp 34)) (by decide +kernel)) (fun _ _ _ _ _ => pg_name (i := 3) sc.nd rfl (Or.inl rfl)) (fun _ _ _ _ _ => pts_nil) (fun _ _ _ _ _ => pe_cmpR (k_op_in_seq (K := K) rfl) (pv 3) (pe_ix (k_ix_tup (K := K) rfl) (pv 0) (pe_ci T (x := "ITEMS") (i := 2) (by decide +kernel)) (fun _ _ => rfl)) (by rfl))) pa_nil)))))))
        (pss_one (ps_raise rfl (takes_of rfl rfl rfl rfl) (pmk_x T (x := "BadItem") (by decide +kernel))))
        (pss_nil))
      (pss_one (ps_if (PW.pt (pw_or (pt_not (pt_val (pe_fn d_is_name (hr.mono (by decide)) pass0 (pa_cons (pv 2) pa_nil)))) (pw_or1 (pt_cmpR (k_op_notIn_seq (K := K) rfl) (pv 2) (pe_ix (k_ix_tup (K := K) rfl) (pv 0) (pe_ci T (x := "REGIONS") (i := 1) (by decide +kernel)) (fun _ _ => rfl)) (by rfl)))))
        (pss_one (ps_raise rfl (takes_of rfl rfl rfl rfl) (pmk_x T (x := "BadItem") (by decide +kernel))))
        (pss_nil))), ?_⟩
    refine ⟨_, rfl, _, its, 3, rfl, hi, hnm, by decide, fun H1 s1 => ⟨_, rfl, iteF ?_⟩⟩
    refine ⟨_, rfl, b, rfl, ⟨_, same_t s1 hB⟩, ?_⟩
    refine lc_gen (walk_tup (xs := its.map V.str)) (fun i => its[i]?.map fun s => .bl (decide (s ∈ c.its))) (by omega) (fun H2 s2 => same_t (s1.trans s2) hB) (fun i y H2 H3 Rn Ry hi2 s2 hY hn hy => ?_) (fun D H2 hD s2 h2 => ?_)
    · obtain ⟨rfl, hx⟩ := hY
      rw [List.getElem?_map] at hx
      obtain ⟨z, hz, e⟩ := Option.map_eq_some_iff.mp hx
      subst e
      have s02 := s1.trans s2
      refine ⟨rfl, _, rfl, _, rfl, ac, _, _, _, rfl, rfl, same_t s02 C.t, rfl, ai, _, rfl, .inr (same_t s02 hI), rfl, flat_strs _, ?_⟩
      rw [is_str]
      exact hy _ (by rw [hz]; rfl) _ (Same.refl _)
    have s02 := s1.trans s2
    have e2 : (List.range (its.map V.str).length).filterMap (fun i => its[i]?.map fun s => V.bl (decide (s ∈ c.its))) = (its.map fun s => decide (s ∈ c.its)).map V.bl := by
      rw [hl, fm_get_map, List.map_map]
      rfl
    rw [e2] at h2
    refine ⟨D, _, rfl, SqL.of h2, _, rfl, ?_⟩
    by_cases hall : ∀ s ∈ its, s ∈ c.its
    · have e3 : (its.map fun s => decide (s ∈ c.its)).all id = true := by
        rw [List.all_map, List.all_eq_true]
        intro s hs
        exact decide_eq_true (hall s hs)
      refine iteEf (by rw [e3]; rfl) ?_
      refine ⟨_, rfl, _, rfl, hr1, fun H3 s3 => ⟨_, rfl, iteF ?_⟩⟩
      have s03 := s02.trans s3
      exact ⟨_, rfl, _, rfl, ac, _, _, _, rfl, rfl, same_t s03 C.t, rfl, ar, _, rfl, .inr (same_t s03 hR), rfl, flat_strs _, _, rfl, iteEf (ni_str hr2) (k1 hall _ s03)⟩
    · have e3 : (its.map fun s => decide (s ∈ c.its)).all id = false := by
        rw [Bool.eq_false_iff]
        intro q
        rw [List.all_map, List.all_eq_true] at q
        exact hall fun s hs => of_decide_eq_true (q s hs)
      exact iteE (by rw [e3]; rfl) (k2 hall _ s02)
end
end KS
set_option Elab.async false
set_option linter.all false
set_option maxRecDepth 100000
set_option maxHeartbeats 4000000
/-! catalogs: lane_of, serves, servers. -/
namespace KS
open PySem PySem.Spec PyProof.Rows L2
section
variable {P : Program} {w : World} {K : PySem.W.Frag} {mg : Str → Option Value} {base : Heap}
theorem pairD_sm {h r : Str} (h1 : nameOk h = true) (h2 : nameOk r = true) : Sm (.tuple [.str h, .str r]) 2 := Sm.tup (Sm.cons (Sm.name h1) (Sm.cons (Sm.name h2) Sm.nil))
theorem pair_eqv {h r h' r' : Str} (h1 : nameOk h = true) (h2 : nameOk r = true) (h3 : nameOk h' = true) (h4 : nameOk r' = true) : PyData.eqv (.tuple [.str h, .str r]) (.tuple [.str h', .str r']) = (decide (h = h') && decide (r = r')) := by
  have q := eqv_iff (pairD_sm h1 h2).1 (pairD_sm h3 h4).1
  by_cases e : h = h' ∧ r = r'
  · obtain ⟨rfl, rfl⟩ := e
    rw [q.mpr rfl]
    simp
  · have z : PyData.eqv (.tuple [.str h, .str r]) (.tuple [.str h', .str r']) = false := by
      rw [Bool.eq_false_iff]
      intro y
      have y2 := q.mp y
      injection y2 with y2
      injection y2 with a1 a2
      injection a1 with a1
      injection a2 with a2
      injection a2 with a2
      exact e ⟨a1, a2⟩
    rw [z]
    symm
    rw [Bool.eq_false_iff]
    intro y
    rw [Bool.and_eq_true, decide_eq_true_eq, decide_eq_true_eq] at y
    exact e y
def spLaneOf (K : PySem.W.Frag) : Sp := fun vs H Q _ => ∃ (vc : V) (c : Cat) (h r : Str), vs = [vc, .str h, .str r] ∧ Dp K H vc c.d ∧ c.Ok ∧ nameOk h = true ∧ nameOk r = true ∧
  (laneOf c h r = none → ∀ H', Same H H' → Q .non H') ∧ ∀ l, laneOf c h r = some l → l ∈ c.lanes → ∀ v H', Same H H' → Dp K H' v l.d → Q v H'
theorem sc_laneof : FnScope ["catalog", "house", "region", "lane"] ["catalog", "house", "region"] (defScope (tp 31)) := ⟨rfl, rfl, rfl, by decide +kernel, rfl, by decide +kernel, by decide +kernel⟩
theorem find_none {α : Type} {p : α → Bool} {l : List α} (h : ∀ (j : Nat) (x : α), l[j]? = some x → p x = false) : l.find? p = none := by
  rw [List.find?_eq_none]
  intro x hx q
  obtain ⟨j, hj⟩ := List.mem_iff_getElem?.mp hx
  rw [h j x hj] at q
  cases q
theorem find_some {α : Type} {p : α → Bool} : ∀ {l : List α} {i : Nat} {y : α}, l[i]? = some y → p y = true → (∀ (j : Nat) (x : α), j < i → l[j]? = some x → p x = false) → l.find? p = some y
  | [], i, y, h, _, _ => by simp at h
  | a :: r, 0, y, h, hp, _ => by
    cases h
    rw [List.find?_cons, hp]
  | a :: r, i + 1, y, h, hp, hn => by
    rw [List.find?_cons, hn 0 a (Nat.succ_pos _) rfl]
    exact find_some (l := r) (i := i) h hp fun j x hj e => hn (j + 1) x (Nat.succ_lt_succ hj) e
theorem ok_laneof (T : Tx K mg) : Ok P w K mg base CX0 1 "lane_of" ["catalog", "house", "region"] (spLaneOf K) := by
  have sc := sc_laneof
  refine Ok.mk_ (i := 31) T (by decide +kernel) sc (fun _ _ _ _ _ _ us hl => match us, hl with | [_, _, _], _ => rfl) (fun vs H Q E h => ?_) (fun f cdv A outer s H vs Q E hr h => ?_)
  · obtain ⟨vc, c, h, r, rfl, _⟩ := h
    rfl
  · obtain ⟨vc, c, h, r, rfl, hc, ok, hh, hr', k1, k2⟩ := h
    obtain ⟨ac, vh, vr, vi, vl, vs, rfl, C⟩ := cat_at hc
    obtain ⟨al, xl, rfl, hL, hAL⟩ := Dp.tup_inv C.l
    have ll := hAL.length
    rw [List.length_map] at ll
    refine ⟨_, pss_cons (ps_for PassesOwn.never rfl (pi_tup (pe_ix (k_ix_tup (K := K) rfl) (pv 0) (pe_ci T (x := "LANES") (i := 3) (by decide +kernel)) (fun _ _ => rfl))) (pg_name (i := 3) sc.nd rfl (Or.inl rfl))
        (pss_one (ps_if (pt_cmpR (k_op_eqD (K := K) rfl hr.units) (pe_slice (k_sl_tup (K := K) rfl) (pv 3) po_none (po_some (pe_int))) (pe_tup (pa_cons (pv 1) (pa_cons (pv 2) pa_nil))) (nomark _))
          (pss_one (ps_ret (pv 3)))
          (pss_nil))))
      (pss_one (ps_ret (pe_non))), ?_⟩
    refine ⟨_, rfl, ac, _, _, _, rfl, rfl, C.t, rfl, al, rfl, ⟨_, hL⟩, ?_⟩
    refine for_it (walk_tup (xs := xl)) (fun i σ H1 => Same H H1 ∧ (∃ v, σ = [some (.ref ac), some (.str h), some (.str r), v]) ∧ ∀ (j : Nat) (l : Lane), j < i → c.lanes[j]? = some l → (decide (l.h = h) && decide (l.r = r)) = false)
      ⟨Same.refl _, ⟨_, rfl⟩, fun j l hj => absurd hj (Nat.not_lt_zero _)⟩ (fun i σ H1 _ p => same_t p.1 hL) (fun i y σ H1 H2 hi p hY => ?_) (fun σ H1 p => ?_)
    · obtain ⟨s1, ⟨v, rfl⟩, hno⟩ := p
      obtain ⟨rfl, hx⟩ := hY
      obtain ⟨d, hd1, hd2⟩ := hAL.get' hx
      rw [List.getElem?_map] at hd1
      obtain ⟨l, hl, rfl⟩ := Option.map_eq_some_iff.mp hd1
      have hlm : l ∈ c.lanes := List.mem_of_getElem? hl
      have lo := ok.lanes l hlm
      obtain ⟨b, rfl, hb⟩ := lane_at hd2
      refine ⟨_, rfl, _, rfl, b, _, rfl, same_t s1 hb, nw2 (n := 5) rfl (by decide), fun q hq => ?_⟩
      have sq : Same H2 (upd H2 q (.tup (cutV [.str l.h, .str l.r, .int l.lo, .int l.hi, .int l.pr] none (some 2)))) := same_new hq
      refine ⟨_, rfl, _, rfl, by show 2 ≤ sizeLine; decide, fun q2 hq2 => ?_⟩
      have sq2 := sq.trans (same_new (o := .tup [.str h, .str r]) hq2)
      refine ⟨.tuple [.str l.h, .str l.r], .tuple [.str h, .str r], ?_, ?_, (pairD_sm lo.hn lo.rn).shaped, (pairD_sm hh hr').shaped, _, rfl, ?_⟩
      · exact (Dp.tup (SqT.of upd_same) (.cons (.str _) (.cons (.str _) .nil)) : Dp K _ (.ref q) (.tuple [.str l.h, .str l.r])).same (same_new hq2)
      · exact .tup (SqT.of upd_same) (.cons (.str _) (.cons (.str _) .nil))
      rw [pair_eqv lo.hn lo.rn hh hr']
      by_cases e : (decide (l.h = h) && decide (l.r = r)) = true
      · refine iteE e ⟨_, rfl, ?_⟩
        exact k2 l (find_some hl e fun j x hj q => hno j x hj q) hlm _ _ (s1.trans sq2) ((hd2.same s1).same sq2)
      · refine iteEf (Bool.eq_false_iff.mpr e) ⟨s1.trans sq2, ⟨_, rfl⟩, fun j x hj q => ?_⟩
        by_cases ej : j = i
        · subst ej
          rw [hl] at q
          cases q
          exact Bool.eq_false_iff.mpr e
        · exact hno j x (by omega) q
    · obtain ⟨s1, _, hno⟩ := p
      refine k1 (find_none fun j x q => hno j x ?_ q) _ s1
      have q2 := (List.getElem?_eq_some_iff.mp q).1
      omega
/-! ### serves -/
def spServes (K : PySem.W.Frag) : Sp := fun vs H Q _ => ∃ (vc v vi : V) (c : Cat) (x : Sup) (its : List Str) (r : Str) (by_ : Int), vs = [vc, v, vi, .str r, .int by_] ∧ Dp K H vc c.d ∧ c.Ok ∧ Dp K H v x.d ∧ x ∈ c.sups ∧ Dp K H vi (strsD its) ∧ nameOk r = true ∧
  ∀ H', Same H H' → Q (.bl (serves c x its r by_)) H'
theorem sc_serves : FnScope ["catalog", "supply", "items", "region", "by", "lane"] ["catalog", "supply", "items", "region", "by"] (defScope (tp 32)) := ⟨rfl, rfl, rfl, by decide +kernel, rfl, by decide +kernel, by decide +kernel⟩
theorem ok_serves (T : Tx K mg) (d_lane_of : Ok P w K mg base CX0 1 "lane_of" ["catalog", "house", "region"] (spLaneOf K)) : Ok P w K mg base CX0 2 "serves" ["catalog", "supply", "items", "region", "by"] (spServes K) := by
  have sc := sc_serves
  refine Ok.mk_ (i := 32) T (by decide +kernel) sc (fun _ _ _ _ _ _ us hl => match us, hl with | [_, _, _, _, _], _ => rfl) (fun vs H Q E h => ?_) (fun f cdv A outer s H vs Q E hr h => ?_)
  · obtain ⟨vc, v, vi, c, x, its, r, b, rfl, _⟩ := h
    rfl
  · obtain ⟨vc, v, vi, c, x, its, r, b, rfl, hc, ok, hx, hxm, hi, hr', k⟩ := h
    obtain ⟨a, rfl, hS⟩ := sup_at hx
    obtain ⟨ai, rfl, hI⟩ := strs_at hi
    refine ⟨_, pss_cons (ps_set (i := 5) sc.nd rfl (Or.inl rfl) (pe_fn d_lane_of (hr.mono (by decide)) pass0 (pa_cons (pv 0) (pa_cons (pe_ix (k_ix_tup (K := K) rfl) (pv 1) (pe_int) (fun _ _ => rfl)) (pa_cons (pv 3) pa_nil)))))
      (pss_one (ps_ret (pe_and (pe_cmpR (k_op_in_seq (K := K) rfl) (pe_ix (k_ix_tup (K := K) rfl) (pv 1) (pe_int) (fun _ _ => rfl)) (pv 2) (by rfl)) (pe_and (pe_cmpR op_notN (pv 5) (pe_non) (nomark _)) (pe_one (pe_cmpR op_le (pe_op op_add (pe_ix (k_ix_tup (K := K) rfl) (pv 1) (pe_int) (fun _ _ => rfl)) (pe_ix (k_ix_tup (K := K) rfl) (pv 5) (pe_int) (fun _ _ => rfl))) (pv 4) (nomark _))))))), ?_⟩
    refine ⟨_, rfl, _, rfl, a, _, _, _, rfl, rfl, hS, rfl, _, rfl, vc, c, _, _, rfl, hc, ok, (ok.sups x hxm).hn, hr', fun e H1 s1 => ?_, fun l e hl v1 H1 s1 h1 => ?_⟩
    · refine ⟨_, rfl, a, _, _, _, rfl, rfl, same_t s1 hS, rfl, _, rfl, ai, _, rfl, .inr (same_t s1 hI), rfl, flat_strs _, _, rfl, ?_⟩
      rw [is_str]
      have q := k H1 s1
      unfold serves at q
      rw [e, Bool.and_false] at q
      exact ite2 (fun _ => ⟨_, rfl, rfl, _, rfl, iteF q⟩) fun _ => q
    · obtain ⟨al, rfl, hL⟩ := lane_at h1
      refine ⟨_, rfl, a, _, _, _, rfl, rfl, same_t s1 hS, rfl, _, rfl, ai, _, rfl, .inr (same_t s1 hI), rfl, flat_strs _, _, rfl, ?_⟩
      rw [is_str]
      have q := k H1 s1
      unfold serves at q
      rw [e] at q
      refine ite2 (fun ei => ?_) fun ei => ?_
      · rw [ei, Bool.true_and] at q
        exact ⟨_, rfl, rfl, _, rfl, iteT ⟨_, rfl, a, _, _, _, rfl, rfl, same_t s1 hS, rfl, _, rfl, al, _, _, _, rfl, rfl, hL, rfl, _, _, rfl, rfl, _, rfl, _, _, rfl, rfl, q⟩⟩
      · rw [Bool.eq_false_iff.mpr ei, Bool.false_and] at q
        exact q
/-! ### servers -/
def natsV (l : List Nat) : List V := l.map fun i => .int (i : Nat)
def spServers (K : PySem.W.Frag) : Sp := fun vs H Q _ => ∃ (vc vi : V) (c : Cat) (its : List Str) (r : Str) (by_ : Int), vs = [vc, vi, .str r, .int by_] ∧ Dp K H vc c.d ∧ c.Ok ∧ Dp K H vi (strsD its) ∧ nameOk r = true ∧
  ∀ p H', Same H H' → H p = none → H' p = some (.lst (natsV (servers c its r by_))) → Q (.ref p) H'
theorem sc_servers : FnScope ["catalog", "items", "region", "by", "at", "supply"] ["catalog", "items", "region", "by"] (defScope (tp 33)) := ⟨rfl, rfl, rfl, by decide +kernel, rfl, by decide +kernel, by decide +kernel⟩
theorem fm_filter {p : Nat → Bool} {f : Nat → V} : ∀ l : List Nat, l.filterMap (fun i => if p i = true then some (f i) else none) = (l.filter p).map f
  | [] => rfl
  | a :: r => by
    rw [List.filterMap_cons, List.filter_cons]
    by_cases h : p a = true
    · rw [if_pos h, if_pos h, List.map_cons, fm_filter r]
    · rw [if_neg h, if_neg h, fm_filter r]
theorem ok_servers (T : Tx K mg) (d_serves : Ok P w K mg base CX0 2 "serves" ["catalog", "supply", "items", "region", "by"] (spServes K)) : Ok P w K mg base CX0 3 "servers" ["catalog", "items", "region", "by"] (spServers K) := by
  have sc := sc_servers
  refine Ok.mk_ (i := 33) T (by decide +kernel) sc (fun _ _ _ _ _ _ us hl => match us, hl with | [_, _, _, _], _ => rfl) (fun vs H Q E h => ?_) (fun f cdv A outer s H vs Q E hr h => ?_)
  · obtain ⟨vc, vi, c, its, r, b, rfl, _⟩ := h
    rfl
  · obtain ⟨vc, vi, c, its, r, b, rfl, hc, ok, hi, hr', k⟩ := h
    obtain ⟨ac, vh, vr, vit, vl, vs, rfl, C⟩ := cat_at hc
    obtain ⟨as, xs, rfl, hSu, hAS⟩ := Dp.tup_inv C.s
    have ls := hAS.length
    rw [List.length_map] at ls
    have lsn := ok.sn
    refine ⟨_, pss_one (ps_ret (pe_lc (own := [("at", 4), ("supply", 5)]) rfl sc.nd (pi_enumT rfl (T.free _ (by decide +kernel)) (pa_cons (pe_ix (k_ix_tup (K := K) rfl) (pv 0) (pe_ci T (x := "SUPPLIES") (i := 4) (by decide +kernel)) (fun _ _ => rfl)) pa_nil)) (blkOk_by (own := [("at", 4), ("supply", 5)]) (N := ["catalog", "items", "region", "by", "at", "supply"]) (sc := defScope (tp 33)) (by decide +kernel)) (fun _ _ _ _ _ => k_pg_tup (K := K) (n := 2) rfl rfl (pgs_cons (pg_name (i := 4) sc.nd rfl (Or.inl rfl)) (pgs_cons (pg_name (i := 5) sc.nd rfl (Or.inl rfl)) pgs_nil))) (fun _ _ _ _ _ => pts_one (pt_val (pe_fn d_serves (hr.mono (by decide)) pass0 (pa_cons (pv 0) (pa_cons (pv 5) (pa_cons (pv 1) (pa_cons (pv 2) (pa_cons (pv 3) pa_nil)))))))) (fun _ _ _ _ _ => pv 4))), ?_⟩
    refine ⟨_, rfl, ac, _, _, _, rfl, rfl, C.t, rfl, as, xs, rfl, hSu, ?_⟩
    refine lc_gen (walk_enumT (xs := xs)) (fun i => if (match c.sups[i]? with | some s => serves c s its r b | none => false) = true then some (.int (i : Nat)) else none) (by omega) (fun H1 s1 => same_t s1 hSu) (fun i y H1 H2 Rn Ry hi2 s1 hY hn hy => ?_) (fun D H1 hD s1 h1 => ?_)
    · obtain ⟨t, x, z, rfl, ht, rfl, ex, ez⟩ := hY
      cases ex
      obtain ⟨d, hd1, hd2⟩ := hAS.get' ez
      rw [List.getElem?_map] at hd1
      obtain ⟨l, hl, rfl⟩ := Option.map_eq_some_iff.mp hd1
      have st : Same H1 (upd H1 t (.tup [.int (i : Nat), z])) := same_new ht
      have s2 := s1.trans st
      rw [hl] at hn hy
      refine ⟨t, _, rfl, SqT.of upd_same, rfl, _, _, rfl, _, _, rfl, rfl, rfl, ?_⟩
      refine ⟨_, rfl, _, rfl, _, rfl, _, rfl, _, rfl, _, _, _, c, l, its, r, b, rfl, hc.same s2, ok, hd2.same s2, List.mem_of_getElem? hl, hi.same s2, hr', fun H3 s3 => ⟨_, rfl, ?_⟩⟩
      refine ite2 (fun e => ⟨_, rfl, hy _ (if_pos e) _ (st.trans s3)⟩) fun e => hn (if_neg e) _ (st.trans s3)
    · refine k D H1 s1 hD ?_
      rw [h1]
      have e : (List.range xs.length).filterMap (fun i => if (match c.sups[i]? with | some s => serves c s its r b | none => false) = true then some (V.int (i : Nat)) else none) = natsV (servers c its r b) := by
        rw [fm_filter, ls]
        rfl
      rw [e]
end
end KS
/-! Things of supplies given to wishes: plain mathematics. -/
namespace KF
/-- a sum over 0 .. n - 1 -/
def sumR : Nat → (Nat → Int) → Int
  | 0, _ => 0
  | n + 1, f => sumR n f + f n
theorem sumR_congr {f g : Nat → Int} : ∀ {n : Nat}, (∀ i, i < n → f i = g i) → sumR n f = sumR n g
  | 0, _ => rfl
  | n + 1, h => by
    rw [sumR, sumR, sumR_congr (n := n) fun i hi => h i (by omega), h n (by omega)]
theorem sumR_le {f g : Nat → Int} : ∀ {n : Nat}, (∀ i, i < n → f i ≤ g i) → sumR n f ≤ sumR n g
  | 0, _ => Int.le_refl _
  | n + 1, h => by
    have q1 := sumR_le (n := n) fun i hi => h i (by omega)
    have q2 := h n (by omega)
    simp only [sumR]
    omega
theorem sumR_add {f g : Nat → Int} : ∀ {n : Nat}, sumR n (fun i => f i + g i) = sumR n f + sumR n g
  | 0 => rfl
  | n + 1 => by
    simp only [sumR]
    rw [sumR_add (n := n)]
    omega
theorem sumR_zero : ∀ {n : Nat}, sumR n (fun _ => 0) = 0
  | 0 => rfl
  | n + 1 => by
    simp only [sumR]
    rw [sumR_zero (n := n)]
    rfl
theorem sumR_nonneg {f : Nat → Int} {n : Nat} (h : ∀ i, i < n → 0 ≤ f i) : 0 ≤ sumR n f := by
  have q := sumR_le (f := fun _ => 0) (g := f) (n := n) h
  rw [sumR_zero] at q
  exact q
theorem sumR_single {i : Nat} {d : Int} : ∀ {n : Nat}, sumR n (fun j => if j = i then d else 0) = if i < n then d else 0
  | 0 => by simp [sumR]
  | n + 1 => by
    rw [sumR, sumR_single (n := n)]
    by_cases h1 : i < n
    · rw [if_pos h1, if_neg (by omega), if_pos (by omega)]
      omega
    · rw [if_neg h1]
      by_cases h2 : n = i
      · rw [if_pos h2, if_pos (by omega)]
        omega
      · rw [if_neg h2, if_neg (by omega)]
        rfl
theorem sumR_upd {f : Nat → Int} {i n : Nat} {d : Int} (hi : i < n) : sumR n (fun j => f j + if j = i then d else 0) = sumR n f + d := by
  rw [sumR_add, sumR_single, if_pos hi]
theorem sumR_comm {f : Nat → Nat → Int} {m : Nat} : ∀ {n : Nat}, sumR n (fun i => sumR m fun j => f i j) = sumR m fun j => sumR n fun i => f i j
  | 0 => by
    simp only [sumR]
    exact sumR_zero.symm
  | n + 1 => by
    simp only [sumR]
    rw [sumR_comm (n := n), sumR_add]
theorem sumR_one_le {f : Nat → Int} {n i : Nat} (h : ∀ j, j < n → 0 ≤ f j) (hi : i < n) : f i ≤ sumR n f := by
  have q := sumR_le (f := fun j => if j = i then f i else 0) (g := f) (n := n) fun j hj => by
    by_cases e : j = i
    · rw [if_pos e, e]
      exact Int.le_refl _
    · rw [if_neg e]
      exact h j hj
  rw [sumR_single, if_pos hi] at q
  exact q
/-- supplies with rooms, wishes with the supplies that can serve them (able), what is left, had and given -/
structure Giv (rooms : List Int) (able : List (List Nat)) (rest had : List Int) (g : Nat → Nat → Int) : Prop where
  nr : rest.length = rooms.length
  mh : had.length = able.length
  ab : ∀ (u : Nat) (l : List Nat), able[u]? = some l → ∀ s, s ∈ l → s < rooms.length
  r0 : ∀ s, s < rooms.length → 0 ≤ rest.getD s 0
  g0 : ∀ s u, 0 ≤ g s u
  gp : ∀ s u : Nat, 0 < g s u → u < able.length ∧ s ∈ able.getD u []
  row : ∀ s, s < rooms.length → rest.getD s 0 + sumR able.length (fun u => g s u) = rooms.getD s 0
  col : ∀ u, u < able.length → had.getD u 0 = sumR rooms.length fun s => g s u
section
variable {rooms : List Int} {able : List (List Nat)} {rest had : List Int} {g : Nat → Nat → Int}
theorem Giv.ab' (G : Giv rooms able rest had g) {u s : Nat} (h : s ∈ able.getD u []) : s < rooms.length := by
  cases e : able[u]? with
  | none =>
    rw [List.getD_eq_getElem?_getD, e] at h
    simp at h
  | some l =>
    rw [List.getD_eq_getElem?_getD, e] at h
    exact G.ab u l e s h
theorem Giv.had0 (G : Giv rooms able rest had g) {u : Nat} (hu : u < able.length) : 0 ≤ had.getD u 0 := by
  rw [G.col u hu]
  exact sumR_nonneg fun s _ => G.g0 s u
/-- the supplies that can serve a wish of p -/
def near (able : List (List Nat)) (p : Nat → Bool) (s : Nat) : Bool := (List.range able.length).any fun u => p u && decide (s ∈ able.getD u [])
theorem near_iff {p : Nat → Bool} {s : Nat} : near able p s = true ↔ ∃ u, u < able.length ∧ p u = true ∧ s ∈ able.getD u [] := by
  unfold near
  rw [List.any_eq_true]
  constructor
  · rintro ⟨u, hu, h⟩
    rw [Bool.and_eq_true, decide_eq_true_eq] at h
    exact ⟨u, List.mem_range.mp hu, h.1, h.2⟩
  · rintro ⟨u, hu, h1, h2⟩
    exact ⟨u, List.mem_range.mpr hu, by rw [h1, decide_eq_true h2]; rfl⟩
/-- what all supplies have that can serve a wish of p -/
def cap (rooms : List Int) (able : List (List Nat)) (p : Nat → Bool) : Int := sumR rooms.length fun s => if near able p s = true then rooms.getD s 0 else 0
/-- what wishes of p have -/
def tot (l : List Int) (p : Nat → Bool) : Int := sumR l.length fun u => if p u = true then l.getD u 0 else 0
theorem Giv.tot_eq (G : Giv rooms able rest had g) (p : Nat → Bool) : tot had p = sumR rooms.length fun s => sumR able.length fun u => if p u = true then g s u else 0 := by
  unfold tot
  rw [G.mh, sumR_comm]
  refine sumR_congr fun u hu => ?_
  by_cases h : p u = true
  · rw [if_pos h, G.col u hu]
    exact sumR_congr fun s _ => (if_pos h).symm
  · rw [if_neg h]
    have e : sumR rooms.length (fun s => if p u = true then g s u else 0) = sumR rooms.length fun _ => 0 := sumR_congr fun s _ => if_neg h
    rw [e, sumR_zero]
/-- no wishes have more than their supplies -/
theorem Giv.weak (G : Giv rooms able rest had g) (p : Nat → Bool) : tot had p ≤ cap rooms able p := by
  rw [G.tot_eq p]
  unfold cap
  refine sumR_le fun s hs => ?_
  by_cases h : near able p s = true
  · rw [if_pos h]
    have q1 : sumR able.length (fun u => if p u = true then g s u else 0) ≤ sumR able.length fun u => g s u := sumR_le fun u _ => by
      by_cases e : p u = true
      · rw [if_pos e]
        exact Int.le_refl _
      · rw [if_neg e]
        exact G.g0 s u
    have q2 := G.row s hs
    have q3 := G.r0 s hs
    omega
  · rw [if_neg h]
    have e : sumR able.length (fun u => if p u = true then g s u else 0) = sumR able.length fun _ => 0 := sumR_congr fun u hu => by
      by_cases e : p u = true
      · rw [if_pos e]
        have q := G.g0 s u
        by_cases z : 0 < g s u
        · exact absurd (near_iff.mpr ⟨u, hu, e, (G.gp s u z).2⟩) h
        · omega
      · rw [if_neg e]
    rw [e, sumR_zero]
    exact Int.le_refl _
/-- a lot that is closed: its supplies have nothing left and give to it alone -/
def Closed (able : List (List Nat)) (rest : List Int) (g : Nat → Nat → Int) (p : Nat → Bool) : Prop :=
  ∀ u, u < able.length → p u = true → ∀ s, s ∈ able.getD u [] → rest.getD s 0 ≤ 0 ∧ ∀ v, v < able.length → 0 < g s v → p v = true
theorem Giv.tight (G : Giv rooms able rest had g) {p : Nat → Bool} (c : Closed able rest g p) : tot had p = cap rooms able p := by
  refine Int.le_antisymm (G.weak p) ?_
  rw [G.tot_eq p]
  unfold cap
  refine sumR_le fun s hs => ?_
  by_cases h : near able p s = true
  · rw [if_pos h]
    obtain ⟨u, hu, hp, hm⟩ := near_iff.mp h
    obtain ⟨c1, c2⟩ := c u hu hp s hm
    have e : sumR able.length (fun u => if p u = true then g s u else 0) = sumR able.length fun u => g s u := sumR_congr fun v hv => by
      by_cases e : p v = true
      · rw [if_pos e]
      · rw [if_neg e]
        have q := G.g0 s v
        by_cases z : 0 < g s v
        · exact absurd (c2 v hv z) e
        · omega
    rw [e]
    have q2 := G.row s hs
    omega
  · rw [if_neg h]
    exact sumR_nonneg fun u _ => by
      by_cases e : p u = true
      · rw [if_pos e]
        exact G.g0 s u
      · rw [if_neg e]
        exact Int.le_refl _
/-- all can be served -/
def Feas (rooms : List Int) (able : List (List Nat)) (needs : List Int) : Prop := ∀ p : Nat → Bool, tot needs p ≤ cap rooms able p
theorem Giv.feas (G : Giv rooms able rest had g) : Feas rooms able had := fun p => G.weak p
theorem tot_le {a b : List Int} (hl : a.length = b.length) (p : Nat → Bool) (h : ∀ u, u < a.length → p u = true → a.getD u 0 ≤ b.getD u 0) : tot a p ≤ tot b p := by
  unfold tot
  rw [← hl]
  refine sumR_le fun u hu => ?_
  by_cases e : p u = true
  · rw [if_pos e, if_pos e]
    exact h u hu e
  · rw [if_neg e, if_neg e]
    exact Int.le_refl _
theorem tot_lt {a b : List Int} (hl : a.length = b.length) {p : Nat → Bool} {w : Nat} (hw : w < a.length) (hp : p w = true) (h : ∀ u, u < a.length → p u = true → a.getD u 0 ≤ b.getD u 0) (hs : a.getD w 0 < b.getD w 0) : tot a p < tot b p := by
  unfold tot
  rw [← hl]
  have q := sumR_le (n := a.length) (f := fun u => (if p u = true then a.getD u 0 else 0) + if u = w then 1 else 0) (g := fun u => if p u = true then b.getD u 0 else 0) fun u hu => by
    by_cases e : u = w
    · subst e
      rw [if_pos hp, if_pos hp, if_pos rfl]
      omega
    · rw [if_neg e]
      by_cases e2 : p u = true
      · rw [if_pos e2, if_pos e2]
        have z := h u hu e2
        omega
      · rw [if_neg e2, if_neg e2]
        exact Int.le_refl _
  rw [sumR_upd hw] at q
  omega
/-- a closed lot one of whose wishes has less than it needs: not all can be served -/
theorem Giv.cut (G : Giv rooms able rest had g) {needs : List Int} {p : Nat → Bool} (c : Closed able rest g p) (hl : had.length = needs.length) {w : Nat} (hw : w < had.length) (hp : p w = true)
    (h : ∀ u, u < had.length → p u = true → had.getD u 0 ≤ needs.getD u 0) (hs : had.getD w 0 < needs.getD w 0) : cap rooms able p < tot needs p := by
  rw [← G.tight c]
  exact tot_lt hl hw hp h hs
end
end KF
/-! The search for a way, and the shift along it. -/
namespace KF
section
variable {rooms : List Int} {able : List (List Nat)} {rest had : List Int} {g : Nat → Nat → Int} {wish : Nat} {met : List Nat} {T W : List (Nat × Nat)}
structure Bfs (able : List (List Nat)) (g : Nat → Nat → Int) (wish : Nat) (met : List Nat) (T W : List (Nat × Nat)) : Prop where
  nd : met.Nodup
  h0 : met[0]? = some wish
  lt : ∀ u, u ∈ met → u < able.length
  wk : W.map (·.1) = met.drop 1
  tnd : (T.map (·.1)).Nodup
  tok : ∀ s u : Nat, (s, u) ∈ T → u ∈ met ∧ s ∈ able.getD u []
  wok : ∀ i u s : Nat, W[i]? = some (u, s) → 0 < g s u ∧ ∃ j u' : Nat, j ≤ i ∧ met[j]? = some u' ∧ (s, u') ∈ T
theorem Bfs.init (h : wish < able.length) : Bfs able g wish [wish] [] [] := ⟨by simp, rfl, by simpa using h, rfl, by simp, by simp, by simp⟩
theorem nodup_snoc {α : Type} {l : List α} {x : α} (h : l.Nodup) (hx : ¬ x ∈ l) : (l ++ [x]).Nodup := by
  rw [List.nodup_append]
  exact ⟨h, by simp, fun a ha b hb => by
    rw [List.mem_singleton] at hb
    intro e
    rw [e, hb] at ha
    exact hx ha⟩
theorem Bfs.addT (B : Bfs able g wish met T W) {a u s : Nat} (hu : met[a]? = some u) (hs : s ∈ able.getD u []) (hn : ¬ s ∈ T.map (·.1)) : Bfs able g wish met (T ++ [(s, u)]) W := by
  refine ⟨B.nd, B.h0, B.lt, B.wk, ?_, fun s' u' h => ?_, fun i v s' h => ?_⟩
  · rw [List.map_append]
    exact nodup_snoc B.tnd hn
  · rcases List.mem_append.mp h with h | h
    · exact B.tok s' u' h
    · have e := List.mem_singleton.mp h
      cases e
      exact ⟨List.mem_of_getElem? hu, hs⟩
  · obtain ⟨h1, j, u', hj, h2, h3⟩ := B.wok i v s' h
    exact ⟨h1, j, u', hj, h2, List.mem_append.mpr (.inl h3)⟩
theorem Bfs.met_pos (B : Bfs able g wish met T W) : 0 < met.length := (List.getElem?_eq_some_iff.mp B.h0).1
theorem Bfs.w_len (B : Bfs able g wish met T W) : W.length + 1 = met.length := by
  have q := congrArg List.length B.wk
  rw [List.length_map, List.length_drop] at q
  have p := B.met_pos
  omega
theorem Bfs.addW (B : Bfs able g wish met T W) {a u s v : Nat} (hu : met[a]? = some u) (hT : (s, u) ∈ T) (hv : ¬ v ∈ met) (hl : v < able.length) (hg : 0 < g s v) : Bfs able g wish (met ++ [v]) T (W ++ [(v, s)]) := by
  have wl := B.w_len
  have mp := B.met_pos
  refine ⟨nodup_snoc B.nd hv, ?_, fun x hx => ?_, ?_, B.tnd, fun s' u' h => ?_, fun i x s' h => ?_⟩
  · rw [List.getElem?_append_left mp]
    exact B.h0
  · rcases List.mem_append.mp hx with hx | hx
    · exact B.lt x hx
    · rw [List.mem_singleton.mp hx]
      exact hl
  · rw [List.map_append, B.wk, List.drop_append_of_le_length (by omega)]
    rfl
  · obtain ⟨h1, h2⟩ := B.tok s' u' h
    exact ⟨List.mem_append.mpr (.inl h1), h2⟩
  · by_cases hi : i < W.length
    · rw [List.getElem?_append_left hi] at h
      obtain ⟨h1, j, u', hj, h2, h3⟩ := B.wok i x s' h
      have jl := (List.getElem?_eq_some_iff.mp h2).1
      exact ⟨h1, j, u', hj, by rw [List.getElem?_append_left jl]; exact h2, h3⟩
    · rw [List.getElem?_append_right (by omega)] at h
      by_cases e : i - W.length = 0
      · rw [e] at h
        cases h
        have al := (List.getElem?_eq_some_iff.mp hu).1
        exact ⟨hg, a, u, by omega, by rw [List.getElem?_append_left al]; exact hu, hT⟩
      · rw [List.getElem?_eq_none (by simp; omega)] at h
        cases h
/-- the members beside the wish itself are given something -/
theorem Bfs.given (B : Bfs able g wish met T W) {v : Nat} (hv : v ∈ met) : v = wish ∨ ∃ s, 0 < g s v := by
  obtain ⟨i, hi⟩ := List.mem_iff_getElem?.mp hv
  cases i with
  | zero =>
    rw [B.h0] at hi
    exact .inl (Option.some.inj hi).symm
  | succ i =>
    have q : (met.drop 1)[i]? = some v := by
      rw [List.getElem?_drop, Nat.add_comm]
      exact hi
    rw [← B.wk, List.getElem?_map] at q
    obtain ⟨p, hp, e⟩ := Option.map_eq_some_iff.mp q
    obtain ⟨a, s⟩ := p
    cases e
    exact .inr ⟨s, (B.wok i a s hp).1⟩
/-- all supplies that were met have nothing left and give to those that were met alone; but for ex -/
def ClT (able : List (List Nat)) (rest : List Int) (g : Nat → Nat → Int) (met : List Nat) (T : List (Nat × Nat)) : Prop :=
  ∀ s u : Nat, (s, u) ∈ T → rest.getD s 0 ≤ 0 ∧ ∀ v, v < able.length → 0 < g s v → v ∈ met
/-- of the first k that were met all supplies were met -/
def Seen (able : List (List Nat)) (met : List Nat) (T : List (Nat × Nat)) (k : Nat) : Prop := ∀ j u : Nat, j < k → met[j]? = some u → ∀ s, s ∈ able.getD u [] → s ∈ T.map (·.1)
theorem closed_of (c : ClT able rest g met T) (h : Seen able met T met.length) : Closed able rest g fun u => decide (u ∈ met) := by
  intro u hu hp s hs
  obtain ⟨j, hj⟩ := List.mem_iff_getElem?.mp (of_decide_eq_true hp)
  have q := h j u (List.getElem?_eq_some_iff.mp hj).1 hj s hs
  obtain ⟨⟨s', u'⟩, hm, e⟩ := List.mem_map.mp q
  cases e
  obtain ⟨c1, c2⟩ := c _ u' hm
  exact ⟨c1, fun v hv hg => decide_eq_true (c2 v hv hg)⟩
theorem ClT.more (c : ClT able rest g met T) {v : Nat} : ClT able rest g (met ++ [v]) T := fun s u h => ⟨(c s u h).1, fun x hx hg => List.mem_append.mpr (.inl ((c s u h).2 x hx hg))⟩
theorem Seen.moreT {k : Nat} (h : Seen able met T k) {p : Nat × Nat} : Seen able met (T ++ [p]) k := fun j u hj hu s hs => by
  rw [List.map_append]
  exact List.mem_append.mpr (.inl (h j u hj hu s hs))
theorem Seen.moreM {k : Nat} (h : Seen able met T k) (hk : k ≤ met.length) {v : Nat} : Seen able (met ++ [v]) T k := fun j u hj hu s hs => by
  rw [List.getElem?_append_left (by omega)] at hu
  exact h j u hj hu s hs
/-! ### the shift -/
def bump (g : Nat → Nat → Int) (s u : Nat) (d : Int) : Nat → Nat → Int := fun s' u' => if s' = s ∧ u' = u then g s' u' + d else g s' u'
theorem bump_row {s u s' m : Nat} {d : Int} (hu : u < m) : sumR m (fun u' => bump g s u d s' u') = sumR m (fun u' => g s' u') + if s' = s then d else 0 := by
  by_cases e : s' = s
  · rw [if_pos e, ← sumR_upd (f := fun u' => g s' u') (i := u) (d := d) hu]
    refine sumR_congr fun u' _ => ?_
    unfold bump
    by_cases e2 : u' = u
    · rw [if_pos ⟨e, e2⟩, if_pos e2]
    · rw [if_neg (fun q => e2 q.2), if_neg e2]
      omega
  · rw [if_neg e, Int.add_zero]
    refine sumR_congr fun u' _ => ?_
    unfold bump
    rw [if_neg (fun q => e q.1)]
theorem bump_col {s u u' n : Nat} {d : Int} (hs : s < n) : sumR n (fun s' => bump g s u d s' u') = sumR n (fun s' => g s' u') + if u' = u then d else 0 := by
  by_cases e : u' = u
  · rw [if_pos e, ← sumR_upd (f := fun s' => g s' u') (i := s) (d := d) hs]
    refine sumR_congr fun s' _ => ?_
    unfold bump
    by_cases e2 : s' = s
    · rw [if_pos ⟨e2, e⟩, if_pos e2]
    · rw [if_neg (fun q => e2 q.1), if_neg e2]
      omega
  · rw [if_neg e, Int.add_zero]
    refine sumR_congr fun s' _ => ?_
    unfold bump
    rw [if_neg (fun q => e q.2)]
/-- on the way: the supply at so has given one too few, the wish one too few; the columns of those met below b are as they were -/
structure Sh (rooms : List Int) (able : List (List Nat)) (rest had : List Int) (g0 : Nat → Nat → Int) (wish : Nat) (met : List Nat) (T : List (Nat × Nat)) (so : Nat) (g : Nat → Nat → Int) (b : Nat) : Prop where
  gn : ∀ s u, 0 ≤ g s u
  gp : ∀ s u : Nat, 0 < g s u → u < able.length ∧ s ∈ able.getD u []
  row : ∀ s, s < rooms.length → rest.getD s 0 + sumR able.length (fun u => g s u) = rooms.getD s 0 - if s = so then 1 else 0
  col : ∀ u, u < able.length → sumR rooms.length (fun s => g s u) = had.getD u 0 - if u = wish then 1 else 0
  unt : ∀ j u : Nat, j < b → met[j]? = some u → ∀ s, g s u = g0 s u
  at_ : ∃ j u : Nat, j < b ∧ met[j]? = some u ∧ (so, u) ∈ T
theorem assoc_one {T : List (Nat × Nat)} (h : (T.map (·.1)).Nodup) {s u v : Nat} (h1 : (s, u) ∈ T) (h2 : (s, v) ∈ T) : u = v := by
  induction T with
  | nil => cases h1
  | cons p r ih =>
    rw [List.map_cons, List.nodup_cons] at h
    rcases List.mem_cons.mp h1 with e1 | e1
    · rcases List.mem_cons.mp h2 with e2 | e2
      · rw [← e1] at e2
        injection e2 with _ e2
        exact e2.symm
      · rw [← e1] at h
        exact absurd (List.mem_map.mpr ⟨_, e2, rfl⟩) h.1
    · rcases List.mem_cons.mp h2 with e2 | e2
      · rw [← e2] at h
        exact absurd (List.mem_map.mpr ⟨_, e1, rfl⟩) h.1
      · exact ih h.2 e1 e2
theorem getD_set (l : List Int) (i j : Nat) (x : Int) : (l.set i x).getD j 0 = if j = i ∧ i < l.length then x else l.getD j 0 := by
  rw [List.getD_eq_getElem?_getD, List.getD_eq_getElem?_getD, List.getElem?_set]
  by_cases e : i = j
  · subst e
    by_cases h : i < l.length
    · simp [h]
    · simp [h]
  · have e2 : ¬ j = i := fun q => e q.symm
    simp [e, e2]
/-- the shift begins -/
theorem Sh.begin (G : Giv rooms able rest had g) (B : Bfs able g wish met T W) {s u : Nat} (hT : (s, u) ∈ T) : Sh rooms able (rest.set s (rest.getD s 0 - 1)) (had.set wish (had.getD wish 0 + 1)) g wish met T s g met.length := by
  obtain ⟨hm, hs⟩ := B.tok s u hT
  have hsn := G.ab' hs
  have hw : wish < able.length := B.lt wish (List.mem_of_getElem? B.h0)
  refine ⟨G.g0, G.gp, fun s' hs' => ?_, fun v hv => ?_, fun _ _ _ _ _ => rfl, ?_⟩
  · have q := G.row s' hs'
    rw [getD_set, G.nr]
    by_cases e : s' = s
    · subst e
      rw [if_pos ⟨rfl, hsn⟩, if_pos rfl]
      omega
    · rw [if_neg (fun z => e z.1), if_neg e]
      omega
  · have q := G.col v hv
    rw [getD_set, G.mh]
    by_cases e : v = wish
    · subst e
      rw [if_pos ⟨rfl, hw⟩, if_pos rfl]
      omega
    · rw [if_neg (fun z => e z.1), if_neg e]
      omega
  · obtain ⟨j, hj⟩ := List.mem_iff_getElem?.mp hm
    exact ⟨j, u, (List.getElem?_eq_some_iff.mp hj).1, hj, hT⟩
variable {g0 : Nat → Nat → Int} {so b : Nat}
/-- the last step: the taker is the wish itself -/
theorem Sh.last (S : Sh rooms able rest had g0 wish met T so g b) (ab : ∀ (u : Nat) (l : List Nat), able[u]? = some l → ∀ s, s ∈ l → s < rooms.length) (nr : rest.length = rooms.length) (mh : had.length = able.length) (r0 : ∀ s, s < rooms.length → 0 ≤ rest.getD s 0)
    (B : Bfs able g0 wish met T W) (hT : (so, wish) ∈ T) : Giv rooms able rest had (bump g so wish 1) := by
  obtain ⟨hm, hs⟩ := B.tok so wish hT
  have hw := B.lt wish hm
  have hsn : so < rooms.length := by
    cases e : able[wish]? with
    | none => rw [List.getD_eq_getElem?_getD, e] at hs; simp at hs
    | some l =>
      rw [List.getD_eq_getElem?_getD, e] at hs
      exact ab wish l e so hs
  refine ⟨nr, mh, ab, r0, fun s u => ?_, fun s u h => ?_, fun s hs' => ?_, fun u hu => ?_⟩
  · have q := S.gn s u
    unfold bump
    by_cases e : s = so ∧ u = wish
    · rw [if_pos e]
      omega
    · rw [if_neg e]
      exact q
  · unfold bump at h
    by_cases e : s = so ∧ u = wish
    · obtain ⟨rfl, rfl⟩ := e
      exact ⟨hw, hs⟩
    · rw [if_neg e] at h
      exact S.gp s u h
  · rw [bump_row hw]
    have q := S.row s hs'
    omega
  · rw [bump_col hsn]
    have q := S.col u hu
    omega
/-- one more step: the taker t gives up one of the supply that it was met by -/
theorem Sh.next (S : Sh rooms able rest had g0 wish met T so g b) (ab : ∀ (u : Nat) (l : List Nat), able[u]? = some l → ∀ s, s ∈ l → s < rooms.length) (B : Bfs able g0 wish met T W) {t : Nat} (hT : (so, t) ∈ T) (ht : t ≠ wish) :
    ∃ s2 b2 : Nat, (t, s2) ∈ W ∧ b2 < b ∧ 0 < bump g so t 1 s2 t ∧ Sh rooms able rest had g0 wish met T s2 (bump (bump g so t 1) s2 t (-1)) b2 := by
  obtain ⟨hm, hs⟩ := B.tok so t hT
  have htl := B.lt t hm
  have hab : ∀ {u s : Nat}, s ∈ able.getD u [] → s < rooms.length := fun {u s} h => by
    cases e : able[u]? with
    | none => rw [List.getD_eq_getElem?_getD, e] at h; simp at h
    | some l =>
      rw [List.getD_eq_getElem?_getD, e] at h
      exact ab u l e s h
  have hsn := hab hs
  obtain ⟨j, u, hj, hu, hTu⟩ := S.at_
  have e := assoc_one B.tnd hTu hT
  subst e
  cases j with
  | zero =>
    rw [B.h0] at hu
    exact absurd (Option.some.inj hu).symm ht
  | succ i =>
    have q : (met.drop 1)[i]? = some u := by
      rw [List.getElem?_drop, Nat.add_comm]
      exact hu
    rw [← B.wk, List.getElem?_map] at q
    obtain ⟨⟨a, s2⟩, hp, e⟩ := Option.map_eq_some_iff.mp q
    cases e
    obtain ⟨hg, j2, u2, hj2, hu2, hT2⟩ := B.wok i a s2 hp
    have hg' : g s2 a = g0 s2 a := S.unt (i + 1) a hj hu s2
    have hs2 := hab (B.tok s2 u2 hT2).2
    have pos : 0 < bump g so a 1 s2 a := by
      unfold bump
      have z := S.gn s2 a
      split <;> omega
    refine ⟨s2, i + 1, List.mem_of_getElem? hp, hj, pos, ⟨fun s u => ?_, fun s u h => ?_, fun s hs' => ?_, fun u hu' => ?_, fun j' u' hj' hu' s => ?_, ⟨j2, u2, by omega, hu2, hT2⟩⟩⟩
    · have z := S.gn s u
      by_cases e : s = s2 ∧ u = a
      · obtain ⟨rfl, rfl⟩ := e
        show 0 ≤ bump (bump g so u 1) s u (-1) s u
        unfold bump at pos ⊢
        rw [if_pos ⟨rfl, rfl⟩]
        omega
      · show 0 ≤ bump (bump g so a 1) s2 a (-1) s u
        unfold bump
        rw [if_neg e]
        split <;> omega
    · by_cases e : u = a
      · subst e
        by_cases e2 : s = so
        · subst e2
          exact ⟨htl, hs⟩
        · have h3 : 0 < g s u := by
            unfold bump at h
            split at h
            · rw [if_neg (fun q => e2 q.1)] at h
              omega
            · rw [if_neg (fun q => e2 q.1)] at h
              exact h
          exact S.gp s u h3
      · have h3 : 0 < g s u := by
          unfold bump at h
          rw [if_neg (fun q => e q.2), if_neg (fun q => e q.2)] at h
          exact h
        exact S.gp s u h3
    · rw [bump_row htl, bump_row htl]
      have z := S.row s hs'
      omega
    · rw [bump_col hs2, bump_col hsn]
      have z := S.col u hu'
      by_cases e : u = a
      · rw [if_pos e, if_pos e]
        omega
      · rw [if_neg e, if_neg e]
        omega
    · have ne : u' ≠ a := fun q => by
        subst q
        obtain ⟨x1, y1⟩ := List.getElem?_eq_some_iff.mp hu'
        obtain ⟨x2, y2⟩ := List.getElem?_eq_some_iff.mp hu
        have z := (List.getElem_inj B.nd).mp (y1.trans y2.symm)
        omega
      unfold bump
      rw [if_neg (fun q => ne q.2), if_neg (fun q => ne q.2)]
      exact S.unt j' u' (by omega) hu' s
end
end KF
set_option Elab.async false
set_option linter.all false
set_option maxRecDepth 100000
set_option maxHeartbeats 4000000
/-! Methods and makers. -/
namespace KS
open PySem PySem.Spec PyProof.Rows L2
section
variable {P : Program} {w : World} {K : PySem.W.Frag} {mg : Str → Option Value} {base : Heap}
/-- the binding of a method's row -/
abbrev BindsOf (m q : Str) (st : Stmt) (ps : List Str) : Prop := ∀ (kV doc pm : Value) (an : Option Addr) (cdv ct : Value) (us : List Value), us.length = ps.length → bindArgs (PySem.W.fnOf m q (defArgs st) (defBody st) (defScope st) .none kV doc pm an cdv ct) ⟨us, []⟩ = pure (ps.zip us)
theorem OkM.mk_G {m q : Str} {i : Nat} {N ps : List Str} {k : Nat} {sp : Sp} (T : Tx K mg) (hp : (m, q, i) ∈ gmeths) (S : FnScope N ps (defScope (gv i))) (hb : BindsOf m q (gv i) ps) (len : ∀ vs H Q E, sp vs H Q E → vs.length = ps.length)
    (hbody : ∀ (f : Addr) (cdv : Value) (A : Around) (outer : List Env) (s : Shared) (H : Hp) (vs : List V) (Q : VK) (E : XK), Room k (A.deeper (envOfC q (defScope (gv i)) s.heap.objs.size f cdv)) → sp vs H Q E →
      ∃ t, PSs (cxOf CX0 P w K mg base N q (defScope (gv i)) f cdv A outer s H E).nox (defBody (gv i)) t ∧ t { nx := fun _ H' => Q .non H', rt := Q } (start N vs) H) : OkM P w K mg base CX0 (k + 1) (cG K) m ps sp := by
  obtain ⟨fd, F, hm⟩ := T.gm _ hp
  refine ⟨T.gC, _, fd, F.ok S len fun cdv A outer s H vs Q E hr h => ?_, hm, F.bindsN hb⟩
  obtain ⟨t, a, b⟩ := hbody _ cdv A outer s H vs Q E hr h
  exact ⟨t, a.nox, b⟩
theorem OkM.mk_B {m q : Str} {i : Nat} {N ps : List Str} {k : Nat} {sp : Sp} (T : Tx K mg) (hp : (m, q, i) ∈ bmeths) (S : FnScope N ps (defScope (bk i))) (hb : BindsOf m q (bk i) ps) (len : ∀ vs H Q E, sp vs H Q E → vs.length = ps.length)
    (hbody : ∀ (f : Addr) (cdv : Value) (A : Around) (outer : List Env) (s : Shared) (H : Hp) (vs : List V) (Q : VK) (E : XK), Room k (A.deeper (envOfC q (defScope (bk i)) s.heap.objs.size f cdv)) → sp vs H Q E →
      ∃ t, PSs (cxOf CX0 P w K mg base N q (defScope (bk i)) f cdv A outer s H E).nox (defBody (bk i)) t ∧ t { nx := fun _ H' => Q .non H', rt := Q } (start N vs) H) : OkM P w K mg base CX0 (k + 1) (cB K) m ps sp := by
  obtain ⟨fd, F, hm⟩ := T.bm _ hp
  refine ⟨T.bC, _, fd, F.ok S len fun cdv A outer s H vs Q E hr h => ?_, hm, F.bindsN hb⟩
  obtain ⟨t, a, b⟩ := hbody _ cdv A outer s H vs Q E hr h
  exact ⟨t, a.nox, b⟩
/-- .. that may raise -/
theorem OkM.mkXB {m q : Str} {i : Nat} {N ps : List Str} {k : Nat} {sp : Sp} (T : Tx K mg) (hp : (m, q, i) ∈ bmeths) (S : FnScope N ps (defScope (bk i))) (hb : BindsOf m q (bk i) ps) (len : ∀ vs H Q E, sp vs H Q E → vs.length = ps.length)
    (hbody : ∀ (f : Addr) (cdv : Value) (A : Around) (outer : List Env) (s : Shared) (H : Hp) (vs : List V) (Q : VK) (E : XK), Room k (A.deeper (envOfC q (defScope (bk i)) s.heap.objs.size f cdv)) → sp vs H Q E →
      ∃ t, PSs (cxOf (L2.CX P w) P w K mg base N q (defScope (bk i)) f cdv A outer s H E) (defBody (bk i)) t ∧ t { nx := fun _ H' => Q .non H', rt := Q } (start N vs) H) : OkM P w K mg base (L2.CX P w) (k + 1) (cB K) m ps sp := by
  obtain ⟨fd, F, hm⟩ := T.bm _ hp
  exact ⟨T.bC, _, fd, F.ok S len fun cdv A outer s H vs Q E hr h => hbody _ cdv A outer s H vs Q E hr h, hm, F.bindsN hb⟩
end
section
variable (P : Program) (w : World) (K : PySem.W.Frag) (mg : Str → Option Value) (base : Heap)
/-- the module's name x is the class at C, whose __init__ keeps sp -/
structure OkI (k : Nat) (x : Str) (C : Addr) (ps : List Str) (sp : Sp) : Prop where
  ex : ∃ f fd, Mk K C f ∧ FnOk P w K mg base CX0 k f fd ps sp ∧ mg x = some (.ref C) ∧ Binds K fd ps []
end
section
variable {P : Program} {w : World} {K : PySem.W.Frag} {mg : Str → Option Value} {base : Heap}
theorem OkI.of {k : Nat} {x : Str} {C : Addr} {ps : List Str} {sp : Sp} (D : OkM P w K mg base CX0 k C "__init__" ps sp) (M : Mk K C (He.ma K C "__init__")) (hg : mg x = some (.ref C)) : OkI P w K mg base k x C ps sp := by
  obtain ⟨f, fd, F, hm, hb⟩ := D.ex
  have e := hm.at_.symm.trans M.init
  cases e
  exact ⟨_, fd, M, F, hg, hb⟩
end
section
variable {X : Cx} {k : Nat} {C : Addr} {ps : List Str} {sp : Sp} {E : XK} {x : Str} {p pos : Pos} {e : Expr} {es : List Expr} {t : TA}
theorem pe_mk (D : OkI X.prog X.w X.K X.mg X.base k x C ps sp) (hr : Room (k + 1) X.A) (hx : Passes CX0 X E) (ha : PA X (e :: es) t) (hg : Gl X x := by rfl) (hdb : (x == ("__debug__" : Str)) = false := by decide)
    (he : starEach (e :: es) X.env = (false, eval e X.env) :: starEach es X.env := by rfl) (hpl : (backTo pos (starEach es X.env)).any (·.1) = false := by rfl) : PE X (.Call (.Name x p) (e :: es) [] pos) (tMake C sp [] E t) := by
  obtain ⟨f, fd, M, F, hm, hb⟩ := D.ex
  exact pe_make M F hr hg hm hb .nil hx ha hdb he hpl
end
end KS
set_option Elab.async false
set_option linter.all false
set_option maxRecDepth 100000
set_option maxHeartbeats 4000000
/-! What a Giving is in the heap. -/
namespace KS
open PySem PySem.Spec PyProof.Rows L2
def intsV (l : List Int) : List V := l.map V.int
/-- Giving's attributes, as its __init__ lays them -/
def gfs (lr vn la dg lh : V) : List (Str × V) := putF "had" lh (putF "given" dg (putF "able" la (putF "needs" vn (putF "rest" lr []))))
section
variable {lr vn la dg lh : V}
theorem gfs_rest : (gfs lr vn la dg lh).lookup ("rest" : Str) = some lr := by
  unfold gfs
  rw [lookup_putF, if_neg (by decide +kernel), lookup_putF, if_neg (by decide +kernel), lookup_putF, if_neg (by decide +kernel), lookup_putF, if_neg (by decide +kernel), lookup_putF, if_pos rfl]
theorem gfs_able : (gfs lr vn la dg lh).lookup ("able" : Str) = some la := by
  unfold gfs
  rw [lookup_putF, if_neg (by decide +kernel), lookup_putF, if_neg (by decide +kernel), lookup_putF, if_pos rfl]
theorem gfs_given : (gfs lr vn la dg lh).lookup ("given" : Str) = some dg := by
  unfold gfs
  rw [lookup_putF, if_neg (by decide +kernel), lookup_putF, if_pos rfl]
theorem gfs_had : (gfs lr vn la dg lh).lookup ("had" : Str) = some lh := by
  unfold gfs
  rw [lookup_putF, if_pos rfl]
theorem gfs_no {m : Str} (h : m ∉ gattrs) : (gfs lr vn la dg lh).lookup m = none := by
  have e : ∀ x ∈ gattrs, ¬ m = x := fun x hx q => h (q ▸ hx)
  unfold gfs
  rw [lookup_putF, if_neg (e _ (by decide +kernel)), lookup_putF, if_neg (e _ (by decide +kernel)), lookup_putF, if_neg (e _ (by decide +kernel)), lookup_putF, if_neg (e _ (by decide +kernel)), lookup_putF, if_neg (e _ (by decide +kernel))]
  rfl
end
/-! ### the dicts -/
def kS (s : Nat) : Key := Sum.inl ((s : Nat) : Int)
def dV (T : List (Nat × Nat)) : List (Key × V) := T.map fun p => (kS p.1, V.int (p.2 : Nat))
theorem kS_inj {a b : Nat} (h : kS a = kS b) : a = b := by
  injection h with h
  omega
theorem dV_get {T : List (Nat × Nat)} (hn : (T.map (·.1)).Nodup) {s u : Nat} (h : (s, u) ∈ T) : valV (dV T) (kS s) = some (.int (u : Nat)) := by
  induction T with
  | nil => cases h
  | cons p r ih =>
    rw [List.map_cons, List.nodup_cons] at hn
    show valV ((kS p.1, V.int (p.2 : Nat)) :: dV r) (kS s) = _
    rcases List.mem_cons.mp h with e | e
    · rw [valV_pos (by rw [← e])]
      rw [← e]
    · have ne : ¬ kS p.1 = kS s := fun q => hn.1 (by
        rw [kS_inj q]
        exact List.mem_map.mpr ⟨_, e, rfl⟩)
      rw [valV_neg ne]
      exact ih hn.2 e
theorem dV_none {T : List (Nat × Nat)} {s : Nat} (h : ¬ s ∈ T.map (·.1)) : valV (dV T) (kS s) = none := by
  induction T with
  | nil => rfl
  | cons p r ih =>
    rw [List.map_cons, List.mem_cons, not_or] at h
    show valV ((kS p.1, V.int (p.2 : Nat)) :: dV r) (kS s) = _
    rw [valV_neg (fun q => h.1 (kS_inj q).symm)]
    exact ih h.2
theorem dV_some {T : List (Nat × Nat)} {s : Nat} (h : s ∈ T.map (·.1)) : (valV (dV T) (kS s)).isSome = true := by
  rw [← valV_any]
  obtain ⟨p, hp, e⟩ := List.mem_map.mp h
  exact List.any_eq_true.mpr ⟨_, List.mem_map.mpr ⟨p, hp, rfl⟩, decide_eq_true (by rw [e])⟩
theorem dV_put {T : List (Nat × Nat)} {s u : Nat} (h : ¬ s ∈ T.map (·.1)) : putK (dV T) (kS s) (.int (u : Nat)) = dV (T ++ [(s, u)]) := by
  rw [putK_new _ (dV_none h)]
  unfold dV
  rw [List.map_append]
  rfl
theorem dV_len (T : List (Nat × Nat)) : (dV T).length = T.length := List.length_map ..
/-- what was given: the dict's pairs tell g; its keys are pairs of supplies and wishes, no one twice -/
def kP (s u : Nat) : List Key := [kS s, kS u]
theorem kP_inj {s u s' u' : Nat} (h : kP s u = kP s' u') : s = s' ∧ u = u' := by
  injection h with h1 h2
  injection h2 with h2
  exact ⟨kS_inj h1, kS_inj h2⟩
structure GRep (n m : Nat) (kvs : List (List Key × V)) (g : Nat → Nat → Int) : Prop where
  val : ∀ s u : Nat, (valV kvs (kP s u)).getD (.int 0) = .int (g s u)
  nd : (kvs.map (·.1)).Nodup
  keys : ∀ k ∈ kvs.map (·.1), ∃ s u : Nat, s < n ∧ u < m ∧ k = kP s u
theorem GRep.nil {n m : Nat} : GRep n m [] fun _ _ => 0 := ⟨fun _ _ => rfl, by simp, by simp⟩
/-- a list without doubles of numbers below n has at most n -/
theorem nodup_len : ∀ {n : Nat} {l : List Nat}, l.Nodup → (∀ x ∈ l, x < n) → l.length ≤ n
  | 0, [], _, _ => Nat.le_refl _
  | 0, x :: r, _, h => absurd (h x List.mem_cons_self) (Nat.not_lt_zero _)
  | n + 1, l, hn, h => by
    have e : (l.filter fun x => decide (x ≠ n)).length + 1 ≥ l.length := by
      by_cases hm : n ∈ l
      · have q : l.filter (fun x => decide (x ≠ n)) = l.erase n := by
          rw [hn.erase_eq_filter]
          congr 1
          funext x
          simp [bne, BEq.beq]
        rw [q, List.length_erase_of_mem hm]
        omega
      · have q : l.filter (fun x => decide (x ≠ n)) = l := List.filter_eq_self.mpr fun x hx => decide_eq_true fun z => hm (z ▸ hx)
        rw [q]
        omega
    have q := nodup_len (n := n) (l := l.filter fun x => decide (x ≠ n)) (hn.filter _) fun x hx => by
      obtain ⟨h1, h2⟩ := List.mem_filter.mp hx
      have z := h x h1
      have y : x ≠ n := of_decide_eq_true h2
      omega
    omega
theorem GRep.len {n m : Nat} {kvs : List (List Key × V)} {g : Nat → Nat → Int} (G : GRep n m kvs g) : kvs.length ≤ n * m := by
  have h : ∀ k ∈ kvs.map (·.1), ∃ s u : Nat, s < n ∧ u < m ∧ k = kP s u := G.keys
  -- each key's number
  let num : List Key → Nat := fun k => match k with
    | [Sum.inl a, Sum.inl b] => a.toNat * m + b.toNat
    | _ => 0
  have hnum : ∀ s u : Nat, num (kP s u) = s * m + u := fun s u => by
    show ((s : Nat) : Int).toNat * m + ((u : Nat) : Int).toNat = s * m + u
    rw [Int.toNat_natCast, Int.toNat_natCast]
  have e : ((kvs.map (·.1)).map num).Nodup := by
    refine List.pairwise_map.mpr (List.Pairwise.imp_of_mem ?_ G.nd)
    intro a b ha hb hne q
    obtain ⟨s, u, h1, h2, rfl⟩ := h a ha
    obtain ⟨s', u', h3, h4, rfl⟩ := h b hb
    rw [hnum, hnum] at q
    have e1 : s = s' := by
      have a1 : (s * m + u) / m = s := by rw [Nat.mul_comm, Nat.mul_add_div (by omega), Nat.div_eq_of_lt h2, Nat.add_zero]
      have a2 : (s' * m + u') / m = s' := by rw [Nat.mul_comm, Nat.mul_add_div (by omega), Nat.div_eq_of_lt h4, Nat.add_zero]
      rw [← a1, q, a2]
    subst e1
    exact hne (by rw [Nat.add_left_cancel q])
  have q := nodup_len (n := n * m) e fun x hx => by
    obtain ⟨k, hk, rfl⟩ := List.mem_map.mp hx
    obtain ⟨s, u, h1, h2, rfl⟩ := h k hk
    rw [hnum]
    calc s * m + u < s * m + m := by omega
      _ = (s + 1) * m := by rw [Nat.succ_mul]
      _ ≤ n * m := Nat.mul_le_mul_right _ h1
  rw [List.length_map, List.length_map] at q
  exact q
theorem GRep.put {n m : Nat} {kvs : List (List Key × V)} {g : Nat → Nat → Int} (G : GRep n m kvs g) {s u : Nat} {d : Int} (hs : s < n) (hu : u < m) : GRep n m (putK kvs (kP s u) (.int (g s u + d))) (KF.bump g s u d) := by
  refine ⟨fun s' u' => ?_, ?_, fun k hk => ?_⟩
  · rw [valV_put]
    unfold KF.bump
    by_cases e : kP s' u' = kP s u
    · obtain ⟨rfl, rfl⟩ := kP_inj e
      rw [if_pos rfl, if_pos ⟨rfl, rfl⟩]
      rfl
    · rw [if_neg e, if_neg (fun q => e (by rw [q.1, q.2]))]
      exact G.val s' u'
  · unfold putK
    split
    · rw [List.map_map]
      have e : ((fun p : List Key × V => p.1) ∘ fun kv : List Key × V => if kv.1 = kP s u then (kv.1, V.int (g s u + d)) else kv) = fun p => p.1 := by
        funext p
        simp only [Function.comp]
        split <;> rfl
      rw [e]
      exact G.nd
    · rename_i h
      rw [List.map_append]
      refine KF.nodup_snoc G.nd fun hm => h ?_
      obtain ⟨p, hp, e⟩ := List.mem_map.mp hm
      exact List.any_eq_true.mpr ⟨p, hp, decide_eq_true e⟩
  · unfold putK at hk
    split at hk
    · rw [List.map_map] at hk
      have e : ((fun p : List Key × V => p.1) ∘ fun kv : List Key × V => if kv.1 = kP s u then (kv.1, V.int (g s u + d)) else kv) = fun p => p.1 := by
        funext p
        simp only [Function.comp]
        split <;> rfl
      rw [e] at hk
      exact G.keys k hk
    · rw [List.map_append] at hk
      rcases List.mem_append.mp hk with q | q
      · exact G.keys k q
      · exact ⟨s, u, hs, hu, List.mem_singleton.mp q⟩
/-- the lists of supplies stand at la: each by its own list -/
structure AbleAt (K : PySem.W.Frag) (H : Hp) (la : Addr) (able : List (List Nat)) : Prop where
  ex : ∃ as : List Addr, SqL K H la (as.map V.ref) ∧ as.length = able.length ∧ ∀ (i : Nat) (a : Addr) (l : List Nat), as[i]? = some a → able[i]? = some l → SqL K H a (natsV l)
theorem AbleAt.same {K : PySem.W.Frag} {H H' : Hp} {la : Addr} {able : List (List Nat)} (h : AbleAt K H la able) (e : Same H H') : AbleAt K H' la able := by
  obtain ⟨as, h1, h2, h3⟩ := h.ex
  exact ⟨as, e.seq h1, h2, fun i a l ha hl => e.seq (h3 i a l ha hl)⟩
/-- a Giving at x behind the heap H0 (what it knows of is not in H0, but the lists of supplies, which it only reads) -/
structure GAt (K : PySem.W.Frag) (H0 H : Hp) (x : Addr) (able : List (List Nat)) (n : Nat) (rest had : List Int) (g : Nat → Nat → Int) : Prop where
  same : Same H0 H
  ex : ∃ (dx lr la dg lh : Addr) (vn : V) (kvs : List (List Key × V)), H x = some (.ins (cG K) dx (gfs (.ref lr) vn (.ref la) (.ref dg) (.ref lh))) ∧ H lr = some (.lst (intsV rest)) ∧ H dg = some (.dT kvs) ∧ H lh = some (.lst (intsV had)) ∧
    lr ≠ lh ∧ H0 x = none ∧ H0 lr = none ∧ H0 dg = none ∧ H0 lh = none ∧ GRep n able.length kvs g ∧ AbleAt K H0 la able
theorem GAt.more {K : PySem.W.Frag} {H0 H H' : Hp} {x : Addr} {able : List (List Nat)} {n : Nat} {rest had : List Int} {g : Nat → Nat → Int} (h : GAt K H0 H x able n rest had g) (e : Same H H') : GAt K H0 H' x able n rest had g := by
  obtain ⟨dx, lr, la, dg, lh, vn, kvs, h1, h2, h3, h4, r⟩ := h.ex
  exact ⟨h.same.trans e, dx, lr, la, dg, lh, vn, kvs, e _ _ h1, e _ _ h2, e _ _ h3, e _ _ h4, r⟩
end KS
set_option Elab.async false
set_option linter.all false
set_option maxRecDepth 100000
set_option maxHeartbeats 8000000
set_option pp.maxSteps 400
/-! Giving.ways_from. -/
namespace KS
open PySem PySem.Spec PyProof.Rows L2
/-- what the search has laid: its list, its two dicts -/
structure LI (H H' : Hp) (lm ds dw : Addr) (met : List Nat) (T W : List (Nat × Nat)) : Prop where
  same : Same H H'
  m : H' lm = some (.lst (natsV met))
  t : H' ds = some (.dK (dV T))
  w : H' dw = some (.dK (dV W))
section
variable {H H' H'' : Hp} {lm ds dw : Addr} {met : List Nat} {T W : List (Nat × Nat)}
theorem natsV_snoc (l : List Nat) (v : Nat) : natsV l ++ [V.int (v : Nat)] = natsV (l ++ [v]) := by
  unfold natsV
  rw [List.map_append]
  rfl
theorem natsV_get {l : List Nat} {i v : Nat} (h : l[i]? = some v) : (natsV l)[i]? = some (.int (v : Nat)) := by
  unfold natsV
  rw [List.getElem?_map, h]
  rfl
theorem natsV_len (l : List Nat) : (natsV l).length = l.length := List.length_map ..
theorem natsV_ints (l : List Nat) : natsV l = (l.map fun i : Nat => ((i : Nat) : Int)).map V.int := by
  unfold natsV
  rw [List.map_map]
  rfl
theorem natsV_in {l : List Nat} {v : Nat} : inV (.int (v : Nat)) (natsV l) = decide (v ∈ l) := by
  rw [natsV_ints, inV_ints]
  by_cases h : v ∈ l
  · rw [decide_eq_true h, decide_eq_true (List.mem_map.mpr ⟨v, h, rfl⟩)]
  · rw [decide_eq_false h, decide_eq_false fun q => ?_]
    obtain ⟨z, hz, e⟩ := List.mem_map.mp q
    have e2 : z = v := by omega
    exact h (e2 ▸ hz)
theorem natsV_flat (l : List Nat) : (natsV l).all flatV = true := by
  rw [natsV_ints]
  exact flat_ints _
theorem LI.more (h : LI H H' lm ds dw met T W) (e : Same H' H'') : LI H H'' lm ds dw met T W := ⟨h.same.trans e, e _ _ h.m, e _ _ h.t, e _ _ h.w⟩
theorem LI.putT (h : LI H H' lm ds dw met T W) (n : H ds = none) (ne : ds ≠ dw) {T' : List (Nat × Nat)} : LI H (upd H' ds (.dK (dV T'))) lm ds dw met T' W :=
  ⟨same_mut h.same n, by rw [upd_ne (ne_of h.m h.t (by intro q; cases q))]; exact h.m, upd_same, by rw [upd_ne ne.symm]; exact h.w⟩
theorem LI.putW (h : LI H H' lm ds dw met T W) (n : H dw = none) (ne : ds ≠ dw) {W' : List (Nat × Nat)} : LI H (upd H' dw (.dK (dV W'))) lm ds dw met T W' :=
  ⟨same_mut h.same n, by rw [upd_ne (ne_of h.m h.w (by intro q; cases q))]; exact h.m, by rw [upd_ne ne]; exact h.t, upd_same⟩
theorem LI.addM (h : LI H H' lm ds dw met T W) (n : H lm = none) {met' : List Nat} : LI H (upd H' lm (.lst (natsV met'))) lm ds dw met' T W :=
  ⟨same_mut h.same n, upd_same, by rw [upd_ne (ne_of h.t h.m (by intro q; cases q))]; exact h.t, by rw [upd_ne (ne_of h.w h.m (by intro q; cases q))]; exact h.w⟩
end
section
variable {P : Program} {w : World} {K : PySem.W.Frag} {mg : Str → Option Value} {base : Heap}
def spWays (K : PySem.W.Frag) : Sp := fun vs H Q _ => ∃ (H0 : Hp) (x : Addr) (wish n : Nat) (able : List (List Nat)) (rest had : List Int) (g : Nat → Nat → Int), vs = [.ref x, .int (wish : Nat)] ∧ GAt K H0 H x able n rest had g ∧ wish < able.length ∧ able.length ≤ 100 ∧ n ≤ 100 ∧ rest.length = n ∧
  (∀ u s : Nat, s ∈ able.getD u [] → s < n) ∧
  (∀ (H' : Hp) (t lm d1 d2 : Addr) (met : List Nat) (T W : List (Nat × Nat)), Same H H' → H' t = some (.tup [.non, .ref lm, .ref d1, .ref d2]) → H' lm = some (.lst (natsV met)) → KF.Bfs able g wish met T W → KF.Closed able rest g (fun u => decide (u ∈ met)) → Q (.ref t) H') ∧
  (∀ (H' : Hp) (t lm ds dw : Addr) (s u : Nat) (met : List Nat) (T W : List (Nat × Nat)), Same H H' → H' t = some (.tup [.int (s : Nat), .ref lm, .ref ds, .ref dw]) → H' ds = some (.dK (dV T)) → H' dw = some (.dK (dV W)) → KF.Bfs able g wish met T W → (s, u) ∈ T → 0 < rest.getD s 0 → Q (.ref t) H')
theorem sc_ways : FnScope ["self", "wish", "met", "to_supply", "to_wish", "at", "supply", "other"] ["self", "wish"] (defScope (gv 1)) := ⟨rfl, rfl, rfl, by decide +kernel, rfl, by decide +kernel, by decide +kernel⟩
theorem ok_ways (T : Tx K mg) : OkM P w K mg base CX0 1 (cG K) "ways_from" ["self", "wish"] (spWays K) := by
  have sc := sc_ways
  refine OkM.mk_G (q := "Giving.ways_from") (i := 1) T (by decide +kernel) sc (fun _ _ _ _ _ _ us hl => match us, hl with | [_, _], _ => rfl) (fun vs H Q E h => ?_) (fun f cdv A outer s H vs Q E hr h => ?_)
  · obtain ⟨H0, x, wish, n, able, rest, had, g, rfl, _⟩ := h
    rfl
  · obtain ⟨H0, x, wish, n, able, rest, had, g, rfl, G, hw, hal, hn, hrl, hab, kN, kS'⟩ := h
    obtain ⟨dx, lr, la, dg, lh, vn, kvs, hx, hlr, hdg, hlh, nrh, x0, lr0, dg0, lh0, GR, AB⟩ := G.ex
    obtain ⟨as, hSas, lenas, hSa⟩ := (AB.same G.same).ex
    refine ⟨_, pss_cons (ps_asg (pe_tup (pa_cons (pe_lst (pa_cons (pv 1) pa_nil)) (pa_cons (pe_dnewK) (pa_cons (pe_dnewK) (pa_cons (pe_int) pa_nil))))) (k_pg_tup (K := K) (n := 4) rfl rfl (pgs_cons (pg_name (i := 2) sc.nd rfl (Or.inl rfl)) (pgs_cons (pg_name (i := 3) sc.nd rfl (Or.inl rfl)) (pgs_cons (pg_name (i := 4) sc.nd rfl (Or.inl rfl)) (pgs_cons (pg_name (i := 5) sc.nd rfl (Or.inl rfl)) pgs_nil))))))
      (pss_cons (ps_while PassesOwn.never (pt_cmpR op_lt (pv 5) (pe_callB (k_len (K := K) rfl) (by rfl) (T.free _ (by decide +kernel)) (by decide +kernel) (pa_cons (pv 2) pa_nil)) (nomark _))
        (pss_cons (ps_for PassesOwn.never rfl (pi_list (pe_ix (k_ix_list (K := K) rfl) (k_pe_fld (K := K) rfl (pv 0) rfl) (pe_ix (k_ix_list (K := K) rfl) (pv 2) (pv 5) (fun _ _ => rfl)) (fun _ _ => rfl))) (pg_name (i := 6) sc.nd rfl (Or.inl rfl))
          (pss_one (ps_if (pt_cmp (pc_dnotin (hu_of hr) (pv 6) (pv 3)) rfl)
            (pss_cons (ps_dput (hu_of hr) (pv 3) (pv 6) (pe_ix (k_ix_list (K := K) rfl) (pv 2) (pv 5) (fun _ _ => rfl)) rfl)
            (pss_cons (ps_if (pt_cmpR op_gt (pe_ix (k_ix_list (K := K) rfl) (k_pe_fld (K := K) rfl (pv 0) rfl) (pv 6) (fun _ _ => rfl)) (pe_int) (nomark _))
              (pss_one (ps_ret (pe_tup (pa_cons (pv 6) (pa_cons (pv 2) (pa_cons (pv 3) (pa_cons (pv 4) pa_nil)))))))
              (pss_nil))
            (pss_one (ps_for PassesOwn.never rfl (pi_range1 rfl (T.free _ (by decide +kernel)) (pa_cons (pe_callB (k_len (K := K) rfl) (by rfl) (T.free _ (by decide +kernel)) (by decide +kernel) (pa_cons (k_pe_fld (K := K) rfl (pv 0) rfl) pa_nil)) pa_nil)) (pg_name (i := 7) sc.nd rfl (Or.inl rfl))
              (pss_one (ps_if (PW.pt (pw_and (pt_cmpR op_gt (pe_dget2 (hu_of hr) (k_pe_fld (K := K) rfl (pv 0) rfl) (pe_tup (pa_cons (pv 6) (pa_cons (pv 7) pa_nil))) (pe_int) ⟨rfl, rfl, rfl, rfl⟩) (pe_int) (nomark _)) (pw_and1 (pt_cmpR (k_op_notIn_seq (K := K) rfl) (pv 7) (pv 2) (by rfl)))))
                (pss_cons (ps_expr (pe_bm PySem.F.plainAttrs_list PySem.F.slot_list_append PySem.F.type_list_append mt_append (pv 2) (pa_cons (pv 7) pa_nil)))
                (pss_one (ps_dput (hu_of hr) (pv 4) (pv 7) (pv 6) rfl)))
                (pss_nil)))))))
            (pss_nil))))
        (pss_one (ps_aug (i := 5) sc.nd rfl (.inl rfl) (pe_int) ip_add))))
      (pss_one (ps_ret (pe_tup (pa_cons (pe_non) (pa_cons (pv 2) (pa_cons (pv 3) (pa_cons (pv 4) pa_nil)))))))), ?_⟩
    refine ⟨_, rfl, by show 1 ≤ sizeLine; decide, fun lm hlm ds hds dw hdw => ⟨by show 4 ≤ sizeLine; decide, fun t ht => ?_⟩⟩
    have n1 : lm ≠ ds := ne_of_none upd_same hds
    have hds0 : H ds = none := by rw [upd_ne n1.symm] at hds; exact hds
    have n2 : ds ≠ dw := ne_of_none upd_same hdw
    have n3 : lm ≠ dw := ne_of_none (by rw [upd_ne n1]; exact upd_same) hdw
    have hdw0 : H dw = none := by rw [upd_ne n2.symm, upd_ne n3.symm] at hdw; exact hdw
    have L0 : LI H (upd (upd (upd (upd H lm (.lst [.int (wish : Nat)])) ds (.dK [])) dw (.dK [])) t (.tup [.ref lm, .ref ds, .ref dw, .int 0])) lm ds dw [wish] [] [] := by
      have q : LI H (upd (upd (upd H lm (.lst [.int (wish : Nat)])) ds (.dK [])) dw (.dK [])) lm ds dw [wish] [] [] :=
        ⟨same_mut (same_mut (same_new hlm) hds0) hdw0, by rw [upd_ne n3, upd_ne n1, upd_same]; rfl, by rw [upd_ne n2, upd_same]; rfl, by rw [upd_same]; rfl⟩
      exact q.more (same_new ht)
    refine ⟨t, _, rfl, SqT.of upd_same, rfl, _, _, rfl, _, _, rfl, _, _, rfl, _, _, rfl, rfl, ?_⟩
    refine ⟨fun m σ H1 => ∃ (met : List Nat) (T W : List (Nat × Nat)) (at_ : Nat) (v6 v7 : Option V), σ = [some (.ref x), some (.int (wish : Nat)), some (.ref lm), some (.ref ds), some (.ref dw), some (.int (at_ : Nat)), v6, v7] ∧ LI H H1 lm ds dw met T W ∧
      KF.Bfs able g wish met T W ∧ KF.ClT able rest g met T ∧ KF.Seen able met T at_ ∧ at_ ≤ met.length ∧ m = able.length - at_,
      ⟨_, [wish], [], [], 0, none, none, rfl, L0, KF.Bfs.init hw, fun _ _ h => (by cases h), fun j u hj => absurd hj (Nat.not_lt_zero _), Nat.zero_le _, rfl⟩, fun m σ H1 hW => ?_⟩
    obtain ⟨met, T1, W1, at_, v6, v7, rfl, L1, B1, C1, S1, hat, rfl⟩ := hW
    have hml : met.length ≤ able.length := nodup_len B1.nd B1.lt
    refine ⟨_, rfl, _, rfl, lm, _, rfl, .inl (SqL.of L1.m), _, _, rfl, rfl, _, rfl, ite2 (fun hlt => ?_) (fun hge => ?_)⟩
    · have hlt : at_ < met.length := by
        have q := of_decide_eq_true hlt
        rw [natsV_len] at q
        omega
      refine ⟨fun σ' H' => ∃ m', m' < able.length - at_ ∧ ∃ (met : List Nat) (T W : List (Nat × Nat)) (at_ : Nat) (v6 v7 : Option V), σ' = [some (.ref x), some (.int (wish : Nat)), some (.ref lm), some (.ref ds), some (.ref dw), some (.int (at_ : Nat)), v6, v7] ∧ LI H H' lm ds dw met T W ∧
        KF.Bfs able g wish met T W ∧ KF.ClT able rest g met T ∧ KF.Seen able met T at_ ∧ at_ ≤ met.length ∧ m' = able.length - at_, fun _ _ h => h, ?_⟩
      obtain ⟨u, hu⟩ : ∃ u, met[at_]? = some u := ⟨met[at_], List.getElem?_eq_getElem hlt⟩
      have hul : u < able.length := B1.lt u (List.mem_of_getElem? hu)
      obtain ⟨l, hl⟩ : ∃ l, able[u]? = some l := ⟨able[u], List.getElem?_eq_getElem hul⟩
      have hlD : able.getD u [] = l := by rw [List.getD_eq_getElem?_getD, hl]; rfl
      obtain ⟨a, ha⟩ : ∃ a, as[u]? = some a := ⟨as[u]'(by omega), List.getElem?_eq_getElem (by omega)⟩
      have hSl := hSa u a l ha hl
      refine ⟨_, rfl, x, _, dx, _, _, rfl, L1.same _ _ hx, T.gC, T.gN _ (by decide +kernel), gfs_able, _, rfl, _, rfl, lm, _, _, _, rfl, rfl, SqL.of L1.m, at_of rfl (natsV_get hu), la, _, _, _, rfl, rfl, L1.same.seq hSas, at_of (j := u) rfl (by rw [List.getElem?_map, ha]; rfl), a, rfl, ⟨_, L1.same.seq hSl⟩, ?_⟩
      refine for_it (walk_list (xs := natsV l)) (fun i σ' H' => ∃ (met : List Nat) (T W : List (Nat × Nat)) (v6 v7 : Option V), σ' = [some (.ref x), some (.int (wish : Nat)), some (.ref lm), some (.ref ds), some (.ref dw), some (.int (at_ : Nat)), v6, v7] ∧ LI H H' lm ds dw met T W ∧
        KF.Bfs able g wish met T W ∧ KF.ClT able rest g met T ∧ KF.Seen able met T at_ ∧ met[at_]? = some u ∧ ∀ s ∈ l.take i, s ∈ T.map (·.1))
        ⟨met, T1, W1, v6, v7, rfl, L1, B1, C1, S1, hu, by simp⟩ (fun i σ' H' _ ⟨_, _, _, _, _, _, L, _⟩ => L.same.seq hSl) ?_ ?_
      · rintro i y σ' H' H'' hi ⟨met, T2, W2, v6, v7, rfl, L2, B2, C2, S2, hu2, hseen⟩ ⟨rfl, hy⟩
        have hi' : i < l.length := by rw [natsV_len] at hi; exact hi
        obtain ⟨s, hs⟩ : ∃ s, l[i]? = some s := ⟨l[i], List.getElem?_eq_getElem hi'⟩
        have ey := (natsV_get hs).symm.trans hy
        cases ey
        have hsl : s ∈ able.getD u [] := by rw [hlD]; exact List.mem_of_getElem? hs
        have hsn : s < n := hab u s hsl
        have htake : l.take (i + 1) = l.take i ++ [s] := by
          rw [List.take_add_one, hs]
          rfl
        refine ⟨_, rfl, _, rfl, ds, _, rfl, DGet.k (k := kS s) L2.t, _, rfl, ?_⟩
        by_cases hin : s ∈ T2.map (·.1)
        · refine iteEf (by rw [dV_some hin]; rfl) ?_
          refine ⟨met, T2, W2, _, v7, rfl, L2, B2, C2, S2, hu2, fun z hz => ?_⟩
          rw [htake] at hz
          rcases List.mem_append.mp hz with q | q
          · exact hseen z q
          · rw [List.mem_singleton.mp q]
            exact hin
        · refine iteE (by rw [dV_none hin]; rfl) ?_
          have lenT : (dV T2).length < sizeLine := by
            have q : T2.length ≤ n := by
              have z := nodup_len (n := n) B2.tnd fun k hk => by
                obtain ⟨⟨k1, k2⟩, hk1, rfl⟩ := List.mem_map.mp hk
                exact hab k2 k1 (B2.tok k1 k2 hk1).2
              rw [List.length_map] at z
              exact z
            rw [dV_len]
            exact Nat.lt_of_le_of_lt (by omega : T2.length ≤ 100) (by decide)
          refine ⟨_, rfl, _, rfl, lm, _, _, _, rfl, rfl, SqL.of L2.m, at_of rfl (natsV_get hu2), _, rfl, _, rfl, ds, _, rfl, DPut.k (k := kS s) L2.t lenT, ?_⟩
          rw [dV_put hin]
          have L3 := L2.putT hds0 n2 (T' := T2 ++ [(s, u)])
          have B3 := B2.addT hu2 hsl hin
          obtain ⟨z, hz⟩ : ∃ z, rest[s]? = some z := ⟨rest[s]'(by omega), List.getElem?_eq_getElem (by omega)⟩
          have hzD : rest.getD s 0 = z := by rw [List.getD_eq_getElem?_getD, hz]; rfl
          refine ⟨_, rfl, x, _, dx, _, _, rfl, L3.same _ _ hx, T.gC, T.gN _ (by decide +kernel), gfs_rest, _, rfl, lr, _, _, _, rfl, rfl, SqL.of (L3.same _ _ hlr), at_of (j := s) rfl (by show (rest.map V.int)[s]? = _; rw [List.getElem?_map, hz]; rfl), _, _, rfl, rfl, _, rfl, ite2 (fun hpos => ?_) (fun hnp => ?_)⟩
          · have hpos : 0 < z := of_decide_eq_true hpos
            refine ⟨_, rfl, _, rfl, _, rfl, _, rfl, by show 4 ≤ sizeLine; decide, fun t2 ht2 => ?_⟩
            have s3 := same_new (o := .tup [V.int (s : Nat), .ref lm, .ref ds, .ref dw]) ht2
            exact kS' _ t2 lm ds dw s u met _ _ (L3.same.trans s3) upd_same (s3 _ _ L3.t) (s3 _ _ L3.w) B3 (List.mem_append.mpr (.inr (List.mem_singleton.mpr rfl))) (by rw [hzD]; exact hpos)
          · have hnp : z ≤ 0 := by
              have q : ¬ 0 < z := fun q => hnp (decide_eq_true q)
              omega
            refine ⟨_, rfl, x, _, dx, _, _, rfl, L3.same _ _ hx, T.gC, T.gN _ (by decide +kernel), gfs_able, la, _, rfl, .inl (L3.same.seq hSas), _, rfl, by omega, ?_, ?_⟩
            · rw [List.length_map, lenas]
              omega
            have etn : (((as.map V.ref).length : Nat) : Int).toNat = able.length := by
              rw [List.length_map, lenas, Int.toNat_natCast]
            rw [etn]
            refine for_it (walk_range (lo := 0) (n := able.length)) (fun k σ' H' => ∃ (met : List Nat) (W : List (Nat × Nat)) (v7 : Option V), σ' = [some (.ref x), some (.int (wish : Nat)), some (.ref lm), some (.ref ds), some (.ref dw), some (.int (at_ : Nat)), some (.int (s : Nat)), v7] ∧
              LI H H' lm ds dw met (T2 ++ [(s, u)]) W ∧ KF.Bfs able g wish met (T2 ++ [(s, u)]) W ∧ KF.ClT able rest g met T2 ∧ KF.Seen able met T2 at_ ∧ met[at_]? = some u ∧ ∀ v, v < k → 0 < g s v → v ∈ met)
              ⟨met, W2, v7, rfl, L3, B3, C2, S2, hu2, fun v hv => absurd hv (Nat.not_lt_zero _)⟩ (fun _ _ _ _ _ => True.intro) ?_ ?_
            · rintro k y σ' H3 H4 hk ⟨met, W3, v7, rfl, L4, B4, C4, S4, hu4, hsv⟩ ⟨rfl, rfl⟩
              have ek : ((0 : Int) + (k : Nat)) = ((k : Nat) : Int) := by omega
              show gName 7 (V.int ((0 : Int) + (k : Nat))) _ _ _
              rw [ek]
              refine ⟨_, rfl, x, _, dx, _, _, rfl, L4.same _ _ hx, T.gC, T.gN _ (by decide +kernel), gfs_given, dg, rfl, .inr ⟨_, .of (L4.same _ _ hdg)⟩, _, rfl, _, rfl, by show 2 ≤ sizeLine; decide, fun q hq => ?_⟩
              have s5 : Same H4 (upd H4 q (.tup [V.int (s : Nat), V.int (k : Nat)])) := same_new hq
              have L5 := L4.more s5
              refine ⟨_, DGet.t (k := kP s k) (L5.same _ _ hdg) upd_same, g s k, 0, GR.val s k, rfl, _, rfl, ?_⟩
              by_cases hgk : 0 < g s k
              · refine iteD hgk ⟨_, rfl, _, rfl, lm, _, rfl, .inl (SqL.of L5.m), rfl, natsV_flat _, _, rfl, ?_⟩
                rw [if_pos rfl, natsV_in]
                by_cases hkm : k ∈ met
                · refine iteEf (by rw [decide_eq_true hkm]; rfl) ?_
                  refine ⟨met, W3, _, rfl, L5, B4, C4, S4, hu4, fun v hv hgv => ?_⟩
                  by_cases e : v = k
                  · rw [e]
                    exact hkm
                  · exact hsv v (by omega) hgv
                · refine iteE (by rw [decide_eq_false hkm]; rfl) ?_
                  have hml4 : met.length ≤ able.length := nodup_len B4.nd B4.lt
                  refine ⟨_, rfl, .inl ⟨rfl, _, SqL.of L5.m⟩, _, rfl, lm, _, _, rfl, rfl, L5.m, ?_, ?_⟩
                  · rw [natsV_len]
                    exact Nat.lt_of_le_of_lt (by omega : met.length ≤ 100) (by decide)
                  rw [natsV_snoc]
                  have L6 := L5.addM hlm (met' := met ++ [k])
                  have B6 := B4.addW hu4 (List.mem_append.mpr (.inr (List.mem_singleton.mpr rfl))) hkm hk hgk
                  have wn : ¬ k ∈ W3.map (·.1) := by
                    rw [B4.wk]
                    exact fun q => hkm (List.mem_of_mem_drop q)
                  have lenW : (dV W3).length < sizeLine := by
                    have q := B4.w_len
                    rw [dV_len]
                    exact Nat.lt_of_le_of_lt (by omega : W3.length ≤ 100) (by decide)
                  refine ⟨_, rfl, _, rfl, _, rfl, dw, _, rfl, DPut.k (k := kS k) L6.w lenW, ?_⟩
                  rw [dV_put wn]
                  have atl : at_ < met.length := (List.getElem?_eq_some_iff.mp hu4).1
                  refine ⟨met ++ [k], W3 ++ [(k, s)], _, rfl, L6.putW hdw0 n2, B6, C4.more, S4.moreM (by omega), ?_, fun v hv hgv => ?_⟩
                  · rw [List.getElem?_append_left atl]
                    exact hu4
                  · by_cases e : v = k
                    · rw [e]
                      exact List.mem_append.mpr (.inr (List.mem_singleton.mpr rfl))
                    · exact List.mem_append.mpr (.inl (hsv v (by omega) hgv))
              · refine iteDn hgk ⟨met, W3, _, rfl, L5, B4, C4, S4, hu4, fun v hv hgv => ?_⟩
                by_cases e : v = k
                · rw [e] at hgv
                  exact absurd hgv hgk
                · exact hsv v (by omega) hgv
            · rintro σ' H3 ⟨met, W3, v7, rfl, L4, B4, C4, S4, hu4, hsv⟩
              refine ⟨met, T2 ++ [(s, u)], W3, _, v7, rfl, L4, B4, fun s' u' hm => ?_, S4.moreT, hu4, fun z hz => ?_⟩
              · rcases List.mem_append.mp hm with q | q
                · exact C4 s' u' q
                · cases List.mem_singleton.mp q
                  exact ⟨by rw [hzD]; exact hnp, hsv⟩
              · rw [List.map_append]
                rw [htake] at hz
                rcases List.mem_append.mp hz with q | q
                · exact List.mem_append.mpr (.inl (hseen z q))
                · rw [List.mem_singleton.mp q]
                  exact List.mem_append.mpr (.inr (List.mem_singleton.mpr rfl))
      · rintro σ' H' ⟨met, T2, W2, v6, v7, rfl, L2, B2, C2, S2, hu2, hseen⟩
        have atl : at_ < met.length := (List.getElem?_eq_some_iff.mp hu2).1
        have atl2 : met.length ≤ able.length := nodup_len B2.nd B2.lt
        refine ⟨_, rfl, _, _, rfl, rfl, able.length - (at_ + 1), by omega, met, T2, W2, at_ + 1, v6, v7, rfl, L2, B2, C2, fun j u' hj hu' s hs => ?_, by omega, rfl⟩
        by_cases e : j = at_
        · subst e
          rw [hu2] at hu'
          cases hu'
          refine hseen s ?_
          rw [natsV_len, List.take_length]
          rw [hlD] at hs
          exact hs
        · exact S2 j u' (by omega) hu' s hs
    · have hge : at_ = met.length := by
        have q : ¬ ((at_ : Nat) : Int) < (((natsV met).length : Nat) : Int) := fun q => hge (decide_eq_true q)
        rw [natsV_len] at q
        omega
      subst hge
      refine ⟨_, rfl, _, rfl, _, rfl, by show 4 ≤ sizeLine; decide, fun t2 ht2 => ?_⟩
      have s3 := same_new (o := .tup [V.non, .ref lm, .ref ds, .ref dw]) ht2
      exact kN _ t2 lm ds dw met T1 W1 (L1.same.trans s3) upd_same (s3 _ _ L1.m) B1 (KF.closed_of C1 S1)
end
end KS
set_option Elab.async false
set_option linter.all false
set_option maxRecDepth 100000
set_option maxHeartbeats 8000000
set_option pp.maxSteps 400
/-! Giving.shift, Giving.serve. -/
namespace KS
open PySem PySem.Spec PyProof.Rows L2
section
variable {P : Program} {w : World} {K : PySem.W.Frag} {mg : Str → Option Value} {base : Heap}
theorem ixN_nat {n j : Nat} (h : j < n) : ixN n (j : Int) = some j := by
  unfold ixN
  rw [if_pos (by omega), if_pos (by omega), Int.toNat_natCast]
theorem intsV_get {l : List Int} {i : Nat} {z : Int} (h : l[i]? = some z) : (intsV l)[i]? = some (.int z) := by
  unfold intsV
  rw [List.getElem?_map, h]
  rfl
theorem intsV_set (l : List Int) (i : Nat) (z : Int) : (intsV l).set i (.int z) = intsV (l.set i z) := by
  unfold intsV
  rw [List.map_set]
theorem intsV_len (l : List Int) : (intsV l).length = l.length := List.length_map ..
theorem getD_at {l : List Int} {i : Nat} (h : i < l.length) : l[i]? = some (l.getD i 0) := by
  rw [List.getD_eq_getElem?_getD, List.getElem?_eq_getElem h]
  rfl
theorem val_some {kvs : List (List Key × V)} {k : List Key} {z : Int} (h : (valV kvs k).getD (.int 0) = .int z) (hz : 0 < z) : valV kvs k = some (.int z) := by
  cases e : valV kvs k with
  | none =>
    rw [e] at h
    have q : (0 : Int) = z := V.int.inj h
    omega
  | some v =>
    rw [e] at h
    rw [show v = V.int z from h]
/-- what shift and serve may do, of a Giving whose numbers are in order -/
structure GOk (K : PySem.W.Frag) (H0 H : Hp) (x : Addr) (rooms : List Int) (able : List (List Nat)) (rest had : List Int) (g : Nat → Nat → Int) : Prop where
  at_ : GAt K H0 H x able rooms.length rest had g
  giv : KF.Giv rooms able rest had g
  la : able.length ≤ 100
  lr : rooms.length ≤ 100
def spShift (K : PySem.W.Frag) : Sp := fun vs H Q _ => ∃ (H0 : Hp) (x ds dw : Addr) (wish s u : Nat) (rooms : List Int) (able : List (List Nat)) (rest had : List Int) (g : Nat → Nat → Int) (met : List Nat) (T W : List (Nat × Nat)), vs = [.ref x, .int (wish : Nat), .int (s : Nat), .ref ds, .ref dw] ∧
  GOk K H0 H x rooms able rest had g ∧ H ds = some (.dK (dV T)) ∧ H dw = some (.dK (dV W)) ∧ KF.Bfs able g wish met T W ∧ (s, u) ∈ T ∧ 0 < rest.getD s 0 ∧
  ∀ (H' : Hp) (g' : Nat → Nat → Int), GOk K H0 H' x rooms able (rest.set s (rest.getD s 0 - 1)) (had.set wish (had.getD wish 0 + 1)) g' → Q .non H'
theorem sc_shift : FnScope ["self", "wish", "supply", "to_supply", "to_wish", "taker"] ["self", "wish", "supply", "to_supply", "to_wish"] (defScope (gv 2)) := ⟨rfl, rfl, rfl, by decide +kernel, rfl, by decide +kernel, by decide +kernel⟩
theorem ok_shift (T : Tx K mg) : OkM P w K mg base CX0 1 (cG K) "shift" ["self", "wish", "supply", "to_supply", "to_wish"] (spShift K) := by
  have sc := sc_shift
  refine OkM.mk_G (q := "Giving.shift") (i := 2) T (by decide +kernel) sc (fun _ _ _ _ _ _ us hl => match us, hl with | [_, _, _, _, _], _ => rfl) (fun vs H Q E h => ?_) (fun f cdv A outer s H vs Q E hr h => ?_)
  · obtain ⟨H0, x, ds, dw, wish, s, u, rooms, able, rest, had, g, met, Ta, Wa, rfl, _⟩ := h
    rfl
  · obtain ⟨H0, x, ds, dw, wish, s, u, rooms, able, rest, had, g, met, Ta, Wa, rfl, ⟨G, GV, hal, hrl⟩, hds, hdw, B, hT, hpos, k⟩ := h
    obtain ⟨dx, lr, la, dg, lh, vn, kvs, hx, hlr, hdg, hlh, nrh, x0, lr0, dg0, lh0, GR, AB⟩ := G.ex
    have hsn : s < rooms.length := GV.ab' (B.tok s u hT).2
    have hwl : wish < able.length := B.lt wish (List.mem_of_getElem? B.h0)
    have hsr : s < rest.length := by rw [GV.nr]; exact hsn
    have hwh : wish < had.length := by rw [GV.mh]; exact hwl
    -- distinctness
    have xlr : x ≠ lr := ne_of hx hlr (by intro q; cases q)
    have xlh : x ≠ lh := ne_of hx hlh (by intro q; cases q)
    have xdg : x ≠ dg := ne_of hx hdg (by intro q; cases q)
    have lrdg : lr ≠ dg := ne_of hlr hdg (by intro q; cases q)
    have lhdg : lh ≠ dg := ne_of hlh hdg (by intro q; cases q)
    have dslr : ds ≠ lr := ne_of hds hlr (by intro q; cases q)
    have dslh : ds ≠ lh := ne_of hds hlh (by intro q; cases q)
    have dsdg : ds ≠ dg := ne_of hds hdg (by intro q; cases q)
    have dwlr : dw ≠ lr := ne_of hdw hlr (by intro q; cases q)
    have dwlh : dw ≠ lh := ne_of hdw hlh (by intro q; cases q)
    have dwdg : dw ≠ dg := ne_of hdw hdg (by intro q; cases q)
    refine ⟨_, pss_cons (ps_augL (k_pe_fld (K := K) rfl (pv 0) rfl) (pv 2) (pe_int) ip_sub)
      (pss_cons (ps_augL (k_pe_fld (K := K) rfl (pv 0) rfl) (pv 1) (pe_int) ip_add)
      (pss_one (ps_while PassesOwn.never (pt_cmpR op_notN (pv 2) (pe_non) (nomark _))
        (pss_cons (ps_set (i := 5) sc.nd rfl (Or.inl rfl) (pe_dget (hu_of hr) (pv 3) (pv 2) (fun _ _ => rfl)))
        (pss_cons (ps_dput (hu_of hr) (k_pe_fld (K := K) rfl (pv 0) rfl) (pe_tup (pa_cons (pv 2) (pa_cons (pv 5) pa_nil))) (pe_op op_add (pe_dget2 (hu_of hr) (k_pe_fld (K := K) rfl (pv 0) rfl) (pe_tup (pa_cons (pv 2) (pa_cons (pv 5) pa_nil))) (pe_int) ⟨rfl, rfl, rfl, rfl⟩) (pe_int)) rfl)
        (pss_one (ps_if (pt_cmpR op_eq (pv 5) (pv 1) (nomark _))
          (pss_one (ps_set (i := 2) sc.nd rfl (Or.inl rfl) (pe_non)))
          (pss_cons (ps_set (i := 2) sc.nd rfl (Or.inl rfl) (pe_dget (hu_of hr) (pv 4) (pv 5) (fun _ _ => rfl)))
          (pss_one (ps_daug (hu_of hr) (k_pe_fld (K := K) rfl (pv 0) rfl) (pe_tup (pa_cons (pv 2) (pa_cons (pv 5) pa_nil))) (pe_int) in_sub (fun _ _ _ => rfl))))))))))), ?_⟩
    refine ⟨_, rfl, x, _, dx, _, _, rfl, hx, T.gC, T.gN _ (by decide +kernel), gfs_rest, _, rfl, lr, _, _, _, rfl, rfl, hlr, by omega, by omega, intsV_get (by rw [Int.toNat_natCast]; exact getD_at hsr), _, _, rfl, rfl, lr, _, _, s, rfl, rfl, hlr, ixN_nat (by rw [intsV_len]; exact hsr), ?_⟩
    rw [intsV_set]
    have hx1 : upd H lr (.lst (intsV (rest.set s (rest.getD s 0 - 1)))) x = some (.ins (cG K) dx (gfs (.ref lr) vn (.ref la) (.ref dg) (.ref lh))) := by rw [upd_ne xlr]; exact hx
    have hlh1 : upd H lr (.lst (intsV (rest.set s (rest.getD s 0 - 1)))) lh = some (.lst (intsV had)) := by rw [upd_ne nrh.symm]; exact hlh
    refine ⟨_, rfl, x, _, dx, _, _, rfl, hx1, T.gC, T.gN _ (by decide +kernel), gfs_had, _, rfl, lh, _, _, _, rfl, rfl, hlh1, by omega, by omega, intsV_get (by rw [Int.toNat_natCast]; exact getD_at hwh), _, _, rfl, rfl, lh, _, _, wish, rfl, rfl, hlh1, ixN_nat (by rw [intsV_len]; exact hwh), ?_⟩
    rw [intsV_set]
    -- what stands from here on
    have base0 : ∀ (H' : Hp) (kv : List (List Key × V)) (g' : Nat → Nat → Int), Same H0 H' → H' x = some (.ins (cG K) dx (gfs (.ref lr) vn (.ref la) (.ref dg) (.ref lh))) → H' lr = some (.lst (intsV (rest.set s (rest.getD s 0 - 1)))) → H' dg = some (.dT kv) →
        H' lh = some (.lst (intsV (had.set wish (had.getD wish 0 + 1)))) → GRep rooms.length able.length kv g' → GAt K H0 H' x able rooms.length (rest.set s (rest.getD s 0 - 1)) (had.set wish (had.getD wish 0 + 1)) g' :=
      fun H' kv g' e1 e2 e3 e4 e5 e6 => ⟨e1, dx, lr, la, dg, lh, vn, kv, e2, e3, e4, e5, nrh, x0, lr0, dg0, lh0, e6, AB⟩
    have r0' : ∀ s', s' < rooms.length → 0 ≤ (rest.set s (rest.getD s 0 - 1)).getD s' 0 := fun s' hs' => by
      rw [KF.getD_set]
      split
      · omega
      · exact GV.r0 s' hs'
    refine ⟨fun m σ H1 => ∃ (g1 : Nat → Nat → Int) (kv : List (List Key × V)) (v5 : Option V), Same H0 H1 ∧ H1 x = some (.ins (cG K) dx (gfs (.ref lr) vn (.ref la) (.ref dg) (.ref lh))) ∧ H1 lr = some (.lst (intsV (rest.set s (rest.getD s 0 - 1)))) ∧ H1 dg = some (.dT kv) ∧
      H1 lh = some (.lst (intsV (had.set wish (had.getD wish 0 + 1)))) ∧ GRep rooms.length able.length kv g1 ∧ H1 ds = some (.dK (dV Ta)) ∧ H1 dw = some (.dK (dV Wa)) ∧
      ((∃ so b : Nat, σ = [some (.ref x), some (.int (wish : Nat)), some (.int (so : Nat)), some (.ref ds), some (.ref dw), v5] ∧ KF.Sh rooms able (rest.set s (rest.getD s 0 - 1)) (had.set wish (had.getD wish 0 + 1)) g wish met Ta so g1 b ∧ m = b + 1) ∨
       (σ = [some (.ref x), some (.int (wish : Nat)), some .non, some (.ref ds), some (.ref dw), v5] ∧ KF.Giv rooms able (rest.set s (rest.getD s 0 - 1)) (had.set wish (had.getD wish 0 + 1)) g1 ∧ m = 0)),
      ⟨_, g, kvs, none, same_mut (same_mut G.same lr0) lh0, by rw [upd_ne xlh]; exact hx1, by rw [upd_ne nrh, upd_same], by rw [upd_ne lhdg.symm, upd_ne lrdg.symm]; exact hdg, upd_same, GR, by rw [upd_ne dslh, upd_ne dslr]; exact hds, by rw [upd_ne dwlh, upd_ne dwlr]; exact hdw,
        .inl ⟨s, met.length, rfl, KF.Sh.begin GV B hT, rfl⟩⟩, fun m σ H1 hW => ?_⟩
    obtain ⟨g1, kv, v5, sm, ix, ilr, idg, ilh, GR1, ids, idw, alt⟩ := hW
    rcases alt with ⟨so, b, rfl, S, rfl⟩ | ⟨rfl, GV1, rfl⟩
    · refine ⟨_, rfl, rfl, _, rfl, iteT ⟨_, fun σ' H' h => h, ?_⟩⟩
      obtain ⟨j, t, hj, hjt, hTt⟩ := S.at_
      have htl : t < able.length := B.lt t (List.mem_of_getElem? hjt)
      have hson : so < rooms.length := GV.ab' (B.tok so t hTt).2
      refine ⟨_, rfl, _, rfl, ds, .int (t : Nat), rfl, by rw [← dV_get B.tnd hTt]; exact DGet.k (k := kS so) ids, ?_⟩
      -- given[so, t] += 1
      refine ⟨_, rfl, x, _, dx, _, _, rfl, ix, T.gC, T.gN _ (by decide +kernel), gfs_given, dg, rfl, .inr ⟨_, .of idg⟩, _, rfl, _, rfl, by show 2 ≤ sizeLine; decide, fun q hq => ?_⟩
      have s1 : Same H1 (upd H1 q (.tup [V.int (so : Nat), V.int (t : Nat)])) := same_new hq
      refine ⟨_, DGet.t (k := kP so t) (s1 _ _ idg) upd_same, g1 so t, 1, GR1.val so t, rfl, ?_⟩
      refine ⟨_, rfl, x, _, dx, _, _, rfl, s1 _ _ ix, T.gC, T.gN _ (by decide +kernel), gfs_given, _, rfl, _, rfl, by show 2 ≤ sizeLine; decide, fun q2 hq2 => ?_⟩
      have s2 := s1.trans (same_new (o := .tup [V.int (so : Nat), V.int (t : Nat)]) hq2)
      have lkv : kv.length < sizeLine := Nat.lt_of_le_of_lt (Nat.le_trans GR1.len (Nat.mul_le_mul hrl hal)) (by decide)
      refine ⟨dg, _, rfl, DPut.t (k := kP so t) (s2 _ _ idg) upd_same lkv, ?_⟩
      have GR2 := GR1.put (s := so) (u := t) (d := 1) hson htl
      have neq : ∀ {a : Addr} {o : HO}, H1 a = some o → a ≠ dg → upd (upd (upd H1 q (.tup [V.int (so : Nat), V.int (t : Nat)])) q2 (.tup [V.int (so : Nat), V.int (t : Nat)])) dg (.dT (putK kv (kP so t) (.int (g1 so t + 1)))) a = some o := fun e ne => by
        rw [upd_ne ne]
        exact s2 _ _ e
      have sm2 := same_mut (o := .dT (putK kv (kP so t) (.int (g1 so t + 1)))) (sm.trans s2) dg0
      refine ⟨_, rfl, _, rfl, rfl, _, rfl, ?_⟩
      by_cases et : t = wish
      · subst et
        refine iteD rfl ?_
        exact ⟨0, by omega, _, _, _, sm2, neq ix xdg, neq ilr lrdg, upd_same, neq ilh lhdg, GR2, neq ids dsdg, neq idw dwdg, .inr ⟨rfl, S.last GV.ab (by rw [List.length_set]; exact GV.nr) (by rw [List.length_set]; exact GV.mh) r0' B hTt, rfl⟩⟩
      · refine iteDn (fun q => et (by have q2 := V.int.inj q; omega)) ?_
        obtain ⟨s2', b2, hW2, hb2, hpos2, S2⟩ := S.next GV.ab B hTt et
        have wnd : (Wa.map (·.1)).Nodup := by
          rw [B.wk]
          exact B.nd.sublist (List.drop_sublist 1 met)
        refine ⟨_, rfl, _, rfl, dw, .int (s2' : Nat), rfl, by rw [← dV_get wnd hW2]; exact DGet.k (k := kS t) (neq idw dwdg), ?_⟩
        have hs2n : s2' < rooms.length := by
          obtain ⟨j2, u2, _, hu2, hT2⟩ := S2.at_
          exact GV.ab' (B.tok s2' u2 hT2).2
        refine ⟨_, rfl, x, _, dx, _, _, rfl, neq ix xdg, T.gC, T.gN _ (by decide +kernel), gfs_given, _, rfl, _, rfl, by show 2 ≤ sizeLine; decide, fun q3 hq3 => ?_⟩
        have s3 := same_new (o := .tup [V.int (s2' : Nat), V.int (t : Nat)]) hq3
        have hval := GR2.val s2' t
        refine ⟨dg, .int (KF.bump g1 so t 1 s2' t), rfl, by rw [← val_some hval hpos2]; exact DGet.t (k := kP s2' t) (s3 _ _ upd_same) upd_same, _, _, rfl, rfl, ?_⟩
        have lkv2 : (putK kv (kP so t) (.int (g1 so t + 1))).length < sizeLine := Nat.lt_of_le_of_lt (Nat.le_trans GR2.len (Nat.mul_le_mul hrl hal)) (by decide)
        refine ⟨_, DPut.t (k := kP s2' t) (s3 _ _ upd_same) upd_same lkv2, ?_⟩
        have GR3 := GR2.put (s := s2') (u := t) (d := -1) hs2n htl
        refine ⟨b2 + 1, by omega, _, _, _, same_mut (sm2.trans s3) dg0, by rw [upd_ne xdg]; exact s3 _ _ (neq ix xdg), by rw [upd_ne lrdg]; exact s3 _ _ (neq ilr lrdg), upd_same, by rw [upd_ne lhdg]; exact s3 _ _ (neq ilh lhdg), GR3,
          by rw [upd_ne dsdg]; exact s3 _ _ (neq ids dsdg), by rw [upd_ne dwdg]; exact s3 _ _ (neq idw dwdg), .inl ⟨s2', b2, rfl, S2, rfl⟩⟩
    · refine ⟨_, rfl, rfl, _, rfl, iteF ?_⟩
      exact k _ g1 ⟨base0 _ kv g1 sm ix ilr idg ilh GR1, GV1, hal, hrl⟩
end
end KS
set_option Elab.async false
set_option linter.all false
set_option maxRecDepth 100000
set_option maxHeartbeats 8000000
set_option pp.maxSteps 400
/-! Giving.serve, Giving.__init__, given_all. -/
namespace KS
open PySem PySem.Spec PyProof.Rows L2
section
variable {P : Program} {w : World} {K : PySem.W.Frag} {mg : Str → Option Value} {base : Heap}
theorem perm_nats {ns : List Int} {met : List Nat} (h : ns.Perm (met.map fun i : Nat => ((i : Nat) : Int))) : ∃ ms : List Nat, ns.map V.int = natsV ms ∧ ms.Perm met := by
  have e1 : ∀ z ∈ ns, ((z.toNat : Nat) : Int) = z := fun z hz => by
    obtain ⟨i, _, rfl⟩ := List.mem_map.mp (h.mem_iff.mp hz)
    rw [Int.toNat_natCast]
  refine ⟨ns.map Int.toNat, ?_, ?_⟩
  · unfold natsV
    rw [List.map_map]
    refine List.map_congr_left fun z hz => ?_
    show V.int z = V.int ((z.toNat : Nat) : Int)
    rw [e1 z hz]
  · have q := h.map Int.toNat
    rw [List.map_map] at q
    have e : (Int.toNat ∘ fun i : Nat => ((i : Nat) : Int)) = fun i => i := by
      funext i
      exact Int.toNat_natCast i
    rw [e, List.map_id'] at q
    exact q
/-- the wishes that were met where no more could be given -/
structure Held (able : List (List Nat)) (rest : List Int) (g : Nat → Nat → Int) (wish : Nat) (ms : List Nat) : Prop where
  nd : ms.Nodup
  mem : wish ∈ ms
  lt : ∀ v ∈ ms, v < able.length
  cl : KF.Closed able rest g fun u => decide (u ∈ ms)
  gv : ∀ v ∈ ms, v = wish ∨ ∃ s, 0 < g s v
theorem Held.of {able : List (List Nat)} {rest : List Int} {g : Nat → Nat → Int} {wish : Nat} {met ms : List Nat} {T W : List (Nat × Nat)} (B : KF.Bfs able g wish met T W) (c : KF.Closed able rest g fun u => decide (u ∈ met)) (h : ms.Perm met) : Held able rest g wish ms := by
  refine ⟨h.nodup_iff.mpr B.nd, h.mem_iff.mpr (List.mem_of_getElem? B.h0), fun v hv => B.lt v (h.mem_iff.mp hv), ?_, fun v hv => B.given (h.mem_iff.mp hv)⟩
  have e : (fun u => decide (u ∈ ms)) = fun u => decide (u ∈ met) := by
    funext u
    exact decide_eq_decide.mpr h.mem_iff
  rw [e]
  exact c
def spServe (K : PySem.W.Frag) : Sp := fun vs H Q _ => ∃ (H0 : Hp) (x : Addr) (wish most : Nat) (rooms : List Int) (able : List (List Nat)) (rest had : List Int) (g : Nat → Nat → Int), vs = [.ref x, .int (wish : Nat), .int (most : Nat)] ∧
  GOk K H0 H x rooms able rest had g ∧ wish < able.length ∧ most ≤ 1000000 ∧
  (∀ (H' : Hp) (rest' had' : List Int) (g' : Nat → Nat → Int), GOk K H0 H' x rooms able rest' had' g' → had' = had.set wish (had.getD wish 0 + (most : Nat)) → Q .non H') ∧
  (∀ (H' : Hp) (p : Addr) (rest' had' : List Int) (g' : Nat → Nat → Int) (k : Nat) (ms : List Nat), GOk K H0 H' x rooms able rest' had' g' → k < most → had' = had.set wish (had.getD wish 0 + (k : Nat)) → H' p = some (.lst (natsV ms)) → H0 p = none → Held able rest' g' wish ms → Q (.ref p) H')
theorem sc_serve : FnScope ["self", "wish", "most", "turn", "supply", "met", "to_supply", "to_wish"] ["self", "wish", "most"] (defScope (gv 3)) := ⟨rfl, rfl, rfl, by decide +kernel, rfl, by decide +kernel, by decide +kernel⟩
theorem ok_serve (T : Tx K mg) (d_ways_from : OkM P w K mg base CX0 1 (cG K) "ways_from" ["self", "wish"] (spWays K)) (d_shift : OkM P w K mg base CX0 1 (cG K) "shift" ["self", "wish", "supply", "to_supply", "to_wish"] (spShift K)) :
    OkM P w K mg base CX0 2 (cG K) "serve" ["self", "wish", "most"] (spServe K) := by
  have sc := sc_serve
  refine OkM.mk_G (q := "Giving.serve") (i := 3) T (by decide +kernel) sc (fun _ _ _ _ _ _ us hl => match us, hl with | [_, _, _], _ => rfl) (fun vs H Q E h => ?_) (fun f cdv A outer s H vs Q E hr h => ?_)
  · obtain ⟨H0, x, wish, most, rooms, able, rest, had, g, rfl, _⟩ := h
    rfl
  · obtain ⟨H0, x, wish, most, rooms, able, rest, had, g, rfl, GO, hw, hm, kN, kL⟩ := h
    have hwh : wish < had.length := by rw [GO.giv.mh]; exact hw
    refine ⟨_, pss_cons (ps_for PassesOwn.never rfl (pi_range1 rfl (T.free _ (by decide +kernel)) (pa_cons (pv 2) pa_nil)) (pg_name (i := 3) sc.nd rfl (Or.inl rfl))
        (pss_cons (ps_asg (pe_mth d_ways_from (hr.mono (by decide)) pass0 (pv 0) (pa_cons (pv 1) pa_nil)) (k_pg_tup (K := K) (n := 4) rfl rfl (pgs_cons (pg_name (i := 4) sc.nd rfl (Or.inl rfl)) (pgs_cons (pg_name (i := 5) sc.nd rfl (Or.inl rfl)) (pgs_cons (pg_name (i := 6) sc.nd rfl (Or.inl rfl)) (pgs_cons (pg_name (i := 7) sc.nd rfl (Or.inl rfl)) pgs_nil))))))
        (pss_cons (ps_if (pt_cmpR op_isN (pv 4) (pe_non) (nomark _))
          (pss_one (ps_ret (pe_callB (k_sorted (K := K) rfl) (by rfl) (T.free _ (by decide +kernel)) (by decide +kernel) (pa_cons (pv 5) pa_nil))))
          (pss_nil))
        (pss_one (ps_expr (pe_mth d_shift (hr.mono (by decide)) pass0 (pv 0) (pa_cons (pv 1) (pa_cons (pv 4) (pa_cons (pv 6) (pa_cons (pv 7) pa_nil))))))))))
      (pss_one (ps_ret (pe_non))), ?_⟩
    refine ⟨_, rfl, _, rfl, by omega, by omega, ?_⟩
    have etn : ((most : Nat) : Int).toNat = most := Int.toNat_natCast _
    rw [etn]
    refine for_it (walk_range (lo := 0) (n := most)) (fun i σ H1 => ∃ (rest' had' : List Int) (g' : Nat → Nat → Int) (v3 v4 v5 v6 v7 : Option V), σ = [some (.ref x), some (.int (wish : Nat)), some (.int (most : Nat)), v3, v4, v5, v6, v7] ∧ GOk K H0 H1 x rooms able rest' had' g' ∧ had' = had.set wish (had.getD wish 0 + (i : Nat)))
      ⟨rest, had, g, _, _, _, _, _, rfl, GO, ?_⟩ (fun _ _ _ _ _ => True.intro) ?_ ?_
    · rw [List.getD_eq_getElem?_getD, List.getElem?_eq_getElem hwh]
      show had = had.set wish (had[wish] + 0)
      rw [Int.add_zero, List.set_getElem_self]
    · rintro i y σ H1 H2 hi ⟨rest', had', g', v3, v4, v5, v6, v7, rfl, GO1, ehad⟩ ⟨rfl, rfl⟩
      obtain ⟨dx, lr, la, dg, lh, vn, kvs, hx, _⟩ := GO1.at_.ex
      refine ⟨_, rfl, x, dx, _, rfl, hx, gfs_no (by decide +kernel), _, rfl, H0, x, wish, rooms.length, able, rest', had', g', rfl, GO1.at_, hw, GO1.la, GO1.lr, GO1.giv.nr, fun u s hs => GO1.giv.ab' hs, fun H3 t lm d1 d2 met Ta Wa s3 ht hlm B C => ?_, fun H3 t lm ds dw s u met Ta Wa s3 ht hds hdw B hT hpos => ?_⟩
      · refine ⟨t, _, rfl, SqT.of ht, rfl, _, _, rfl, _, _, rfl, _, _, rfl, _, _, rfl, rfl, ?_⟩
        refine ⟨_, rfl, rfl, _, rfl, iteT ⟨_, rfl, lm, met.map (fun i : Nat => ((i : Nat) : Int)), rfl, ?_, fun ns p hperm hpw hp => ?_⟩⟩
        · rw [← natsV_ints]
          exact SqL.of hlm
        · obtain ⟨ms, e, hms⟩ := perm_nats hperm
          rw [e]
          have s4 := same_new (o := .lst (natsV ms)) hp
          exact kL _ p rest' had' g' i ms ⟨GO1.at_.more (s3.trans s4), GO1.giv, GO1.la, GO1.lr⟩ hi ehad upd_same (Same.free (GO1.at_.same.trans s3) hp) (Held.of B C hms)
      · refine ⟨t, _, rfl, SqT.of ht, rfl, _, _, rfl, _, _, rfl, _, _, rfl, _, _, rfl, rfl, ?_⟩
        refine ⟨_, rfl, rfl, _, rfl, iteF ?_⟩
        refine ⟨_, rfl, x, dx, _, rfl, s3 _ _ hx, gfs_no (by decide +kernel), _, rfl, _, rfl, _, rfl, _, rfl, H0, x, ds, dw, wish, s, u, rooms, able, rest', had', g', met, Ta, Wa, rfl, ⟨GO1.at_.more s3, GO1.giv, GO1.la, GO1.lr⟩, hds, hdw, B, hT, hpos, fun H4 g'' GO4 => ?_⟩
        refine ⟨_, _, g'', _, _, _, _, _, rfl, GO4, ?_⟩
        rw [ehad, KF.getD_set, if_pos ⟨rfl, hwh⟩, List.set_set]
        congr 1
        omega
    · rintro σ H1 ⟨rest', had', g', v3, v4, v5, v6, v7, rfl, GO1, ehad⟩
      exact kN _ rest' had' g' GO1 ehad
/-! ### the maker -/
def spGinit (K : PySem.W.Frag) : Sp := fun vs H Q _ => ∃ (H0 : Hp) (x dx ar la : Addr) (vn : V) (rooms : List Int) (able : List (List Nat)), vs = [.ref x, .ref ar, vn, .ref la] ∧ Same H0 H ∧ H0 x = none ∧ H x = some (.ins (cG K) dx []) ∧ SqL K H0 ar (intsV rooms) ∧ AbleAt K H0 la able ∧ rooms.length ≤ 100 ∧ able.length ≤ 100 ∧
  (∀ (u : Nat) (l : List Nat), able[u]? = some l → ∀ s, s ∈ l → s < rooms.length) ∧ (∀ z ∈ rooms, 0 ≤ z) ∧ ∀ H', GOk K H0 H' x rooms able rooms (List.replicate able.length 0) (fun _ _ => 0) → Q .non H'
theorem sc_ginit : FnScope ["self", "rooms", "needs", "able"] ["self", "rooms", "needs", "able"] (defScope (gv 0)) := ⟨rfl, rfl, rfl, by decide +kernel, rfl, by decide +kernel, by decide +kernel⟩
theorem giv_zero {rooms : List Int} {able : List (List Nat)} (hab : ∀ (u : Nat) (l : List Nat), able[u]? = some l → ∀ s, s ∈ l → s < rooms.length) (h0 : ∀ z ∈ rooms, 0 ≤ z) : KF.Giv rooms able rooms (List.replicate able.length 0) fun _ _ => 0 := by
  refine ⟨rfl, List.length_replicate, hab, fun s hs => ?_, fun _ _ => Int.le_refl _, fun s u h => absurd h (Int.lt_irrefl _), fun s hs => ?_, fun u hu => ?_⟩
  · rw [List.getD_eq_getElem?_getD, List.getElem?_eq_getElem hs]
    exact h0 _ (List.getElem_mem hs)
  · rw [KF.sumR_zero, Int.add_zero]
  · rw [KF.sumR_zero, List.getD_eq_getElem?_getD, List.getElem?_replicate]
    split <;> rfl
theorem ok_ginit (T : Tx K mg) : OkM P w K mg base CX0 1 (cG K) "__init__" ["self", "rooms", "needs", "able"] (spGinit K) := by
  have sc := sc_ginit
  refine OkM.mk_G (q := "Giving.__init__") (i := 0) T (by decide +kernel) sc (fun _ _ _ _ _ _ us hl => match us, hl with | [_, _, _, _], _ => rfl) (fun vs H Q E h => ?_) (fun f cdv A outer s H vs Q E hr h => ?_)
  · obtain ⟨H0, x, dx, ar, la, vn, rooms, able, rfl, _⟩ := h
    rfl
  · obtain ⟨H0, x, dx, ar, la, vn, rooms, able, rfl, sm, x0, hx, hr', hA, hrl, hal, hab, hnn, k⟩ := h
    obtain ⟨as, hSas, lenas, hSa⟩ := hA.ex
    refine ⟨_, pss_cons (ps_fld (pv 0) (pe_callTy (k_list (K := K) rfl) (by rfl) (T.free _ (by decide +kernel)) (by decide +kernel) (pa_cons (pv 1) pa_nil)) rfl)
      (pss_cons (ps_fld (pv 0) (pv 2) rfl)
      (pss_cons (ps_fld (pv 0) (pv 3) rfl)
      (pss_cons (ps_fld (pv 0) (pe_dnewT) rfl)
      (pss_one (ps_fld (pv 0) (pe_op op_rep (pe_lst (pa_cons (pe_int) pa_nil)) (pe_callB (k_len (K := K) rfl) (by rfl) (T.free _ (by decide +kernel)) (by decide +kernel) (pa_cons (pv 3) pa_nil))) rfl))))), ?_⟩
    -- self.rest = list(rooms)
    refine ⟨_, rfl, ar, _, rfl, .inl (sm.seq hr'), fun lr hlr => ?_⟩
    have xlr : x ≠ lr := ne_of_none hx hlr
    have s1 : Same H (upd H lr (.lst (intsV rooms))) := same_new hlr
    refine ⟨_, rfl, x, cG K, dx, _, rfl, s1 _ _ hx, T.gC, T.gN _ (by decide +kernel), (by show 0 < 1000; decide), ?_⟩
    -- needs, able
    refine ⟨_, rfl, _, rfl, x, cG K, dx, _, rfl, upd_same, T.gC, T.gN _ (by decide +kernel), (by show 1 < 1000; decide), ?_⟩
    refine ⟨_, rfl, _, rfl, x, cG K, dx, _, rfl, upd_same, T.gC, T.gN _ (by decide +kernel), (by show 2 < 1000; decide), ?_⟩
    rw [upd_upd, upd_upd]
    -- given
    refine fun dg hdg => ?_
    have xdg : x ≠ dg := ne_of_none upd_same hdg
    refine ⟨_, rfl, x, cG K, dx, _, rfl, by rw [upd_ne xdg]; exact upd_same, T.gC, T.gN _ (by decide +kernel), (by show 3 < 1000; decide), ?_⟩
    have sd1 : Same H0 (upd (upd H lr (.lst (intsV rooms))) x (.ins (cG K) dx (putF "able" (.ref la) (putF "needs" vn (putF "rest" (.ref lr) []))))) := same_mut (sm.trans s1) x0
    have dg0 : H0 dg = none := Same.free sd1 hdg
    have lr0 : H0 lr = none := Same.free sm hlr
    have lrdg : lr ≠ dg := ne_of_none (by rw [upd_ne xlr.symm, upd_same]) hdg
    have sd : Same H0 (upd (upd (upd (upd H lr (.lst (intsV rooms))) x (.ins (cG K) dx (putF "able" (.ref la) (putF "needs" vn (putF "rest" (.ref lr) []))))) dg (.dT [])) x (.ins (cG K) dx (putF "given" (.ref dg) (putF "able" (.ref la) (putF "needs" vn (putF "rest" (.ref lr) [])))))) :=
      same_mut (same_mut sd1 dg0) x0
    refine ⟨by show 1 ≤ sizeLine; decide, fun l0 hl0 => ?_⟩
    have s5 := same_new (o := .lst [V.int 0]) hl0
    have ela : (as.map V.ref).length = able.length := by rw [List.length_map, lenas]
    refine ⟨_, rfl, la, _, rfl, .inl ((sd.trans s5).seq hSas), l0, _, [V.int 0], rfl, rfl, upd_same, by omega, by omega, ?_, fun lh hlh => ?_⟩
    · rw [ela, Int.toNat_natCast]
      show 1 * able.length ≤ sizeLine
      exact Nat.le_trans (by omega : 1 * able.length ≤ 100) (by decide)
    have e0 : (List.replicate (((as.map V.ref).length : Nat) : Int).toNat [V.int 0]).flatten = intsV (List.replicate able.length 0) := by
      rw [ela, Int.toNat_natCast]
      unfold intsV
      rw [List.map_replicate, List.flatten_replicate_singleton]
    rw [e0]
    have s6 := s5.trans (same_new (o := .lst (intsV (List.replicate able.length 0))) hlh)
    have xlh : x ≠ lh := ne_of_none (s5 _ _ upd_same) hlh
    have lrx : lr ≠ x := xlr.symm
    have atlr : upd (upd (upd (upd H lr (.lst (intsV rooms))) x (.ins (cG K) dx (putF "able" (.ref la) (putF "needs" vn (putF "rest" (.ref lr) []))))) dg (.dT [])) x (.ins (cG K) dx (putF "given" (.ref dg) (putF "able" (.ref la) (putF "needs" vn (putF "rest" (.ref lr) []))))) lr = some (.lst (intsV rooms)) := by
      rw [upd_ne lrx, upd_ne lrdg, upd_ne lrx, upd_same]
    have atdg : upd (upd (upd (upd H lr (.lst (intsV rooms))) x (.ins (cG K) dx (putF "able" (.ref la) (putF "needs" vn (putF "rest" (.ref lr) []))))) dg (.dT [])) x (.ins (cG K) dx (putF "given" (.ref dg) (putF "able" (.ref la) (putF "needs" vn (putF "rest" (.ref lr) []))))) dg = some (.dT []) := by
      rw [upd_ne xdg.symm, upd_same]
    have lrlh : lr ≠ lh := ne_of_none (s5 _ _ atlr) hlh
    have lh0 : H0 lh = none := Same.free (sd.trans s5) hlh
    refine ⟨_, rfl, x, cG K, dx, _, rfl, s6 _ _ upd_same, T.gC, T.gN _ (by decide +kernel), (by show 4 < 1000; decide), ?_⟩
    refine k _ ⟨⟨same_mut (sd.trans s6) x0, dx, lr, la, dg, lh, vn, [], upd_same, ?_, ?_, ?_, lrlh, x0, lr0, dg0, lh0, GRep.nil, hA⟩, giv_zero hab hnn, hal, hrl⟩
    · rw [upd_ne lrx]
      exact s6 _ _ atlr
    · rw [upd_ne xdg.symm]
      exact s6 _ _ atdg
    · rw [upd_ne xlh.symm, upd_same]
/-! ### given_all -/
def spGivenAll (K : PySem.W.Frag) : Sp := fun vs H Q _ => ∃ (ar an la : Addr) (rooms needs : List Int) (able : List (List Nat)), vs = [.ref ar, .ref an, .ref la] ∧ SqL K H ar (intsV rooms) ∧ SqL K H an (intsV needs) ∧ AbleAt K H la able ∧ rooms.length ≤ 100 ∧ able.length ≤ 100 ∧ needs.length = able.length ∧
  (∀ (u : Nat) (l : List Nat), able[u]? = some l → ∀ s, s ∈ l → s < rooms.length) ∧ (∀ z ∈ rooms, 0 ≤ z) ∧ (∀ z ∈ needs, 0 ≤ z ∧ z ≤ 1000000) ∧
  (∀ (H' : Hp) (t x : Addr) (rest : List Int) (g : Nat → Nat → Int), GOk K H H' x rooms able rest needs g → H' t = some (.tup [.ref x, .non]) → H t = none → Q (.ref t) H') ∧
  (∀ (H' : Hp) (t x p : Addr) (ms : List Nat), ¬ KF.Feas rooms able needs → Same H H' → H' t = some (.tup [.ref x, .ref p]) → H' p = some (.lst (natsV ms)) → ms.length ≤ 100 → (∀ v ∈ ms, v < able.length) → Q (.ref t) H')
theorem sc_givenall : FnScope ["rooms", "needs", "able", "giving", "wish", "need", "met"] ["rooms", "needs", "able"] (defScope (tp 38)) := ⟨rfl, rfl, rfl, by decide +kernel, rfl, by decide +kernel, by decide +kernel⟩
theorem ok_givenall (T : Tx K mg) (d_Giving : OkI P w K mg base 1 "Giving" (cG K) ["self", "rooms", "needs", "able"] (spGinit K)) (d_serve : OkM P w K mg base CX0 2 (cG K) "serve" ["self", "wish", "most"] (spServe K)) : Ok P w K mg base CX0 3 "given_all" ["rooms", "needs", "able"] (spGivenAll K) := by
  have sc := sc_givenall
  refine Ok.mk_ (i := 38) T (by decide +kernel) sc (fun _ _ _ _ _ _ us hl => match us, hl with | [_, _, _], _ => rfl) (fun vs H Q E h => ?_) (fun f cdv A outer s H vs Q E hr h => ?_)
  · obtain ⟨ar, an, la, rooms, needs, able, rfl, _⟩ := h
    rfl
  · obtain ⟨ar, an, la, rooms, needs, able, rfl, hR, hN, hA, hrl, hal, hnl, hab, hnn, hn0, kN, kL⟩ := h
    refine ⟨_, pss_cons (ps_set (i := 3) sc.nd rfl (Or.inl rfl) (pe_mk d_Giving (hr.mono (by decide)) pass0 (pa_cons (pv 0) (pa_cons (pv 1) (pa_cons (pv 2) pa_nil)))))
      (pss_cons (ps_for PassesOwn.never rfl (pi_enum rfl (T.free _ (by decide +kernel)) (pa_cons (pv 1) pa_nil)) (k_pg_tup (K := K) (n := 2) rfl rfl (pgs_cons (pg_name (i := 4) sc.nd rfl (Or.inl rfl)) (pgs_cons (pg_name (i := 5) sc.nd rfl (Or.inl rfl)) pgs_nil)))
        (pss_cons (ps_set (i := 6) sc.nd rfl (Or.inl rfl) (pe_mth d_serve (hr.mono (by decide)) pass0 (pv 3) (pa_cons (pv 4) (pa_cons (pv 5) pa_nil))))
        (pss_one (ps_if (pt_cmpR op_notN (pv 6) (pe_non) (nomark _))
          (pss_one (ps_ret (pe_tup (pa_cons (pv 3) (pa_cons (pv 6) pa_nil)))))
          (pss_nil)))))
      (pss_one (ps_ret (pe_tup (pa_cons (pv 3) (pa_cons (pe_non) pa_nil)))))), ?_⟩
    refine ⟨_, rfl, _, rfl, _, rfl, fun x dx nx ndx nex => ?_⟩
    have s0 : Same H (upd (upd H dx (.own x)) x (.ins (cG K) dx [])) := same_mut (same_new ndx) nx
    refine ⟨H, x, dx, ar, la, _, rooms, able, rfl, s0, nx, upd_same, hR, hA, hrl, hal, hab, hnn, fun H1 GO1 => ⟨rfl, ?_⟩⟩
    refine ⟨_, rfl, an, _, rfl, GO1.at_.same.seq hN, ?_⟩
    refine for_it (walk_enum (xs := intsV needs)) (fun i σ H2 => ∃ (rest had : List Int) (g : Nat → Nat → Int) (v4 v5 v6 : Option V), σ = [some (.ref ar), some (.ref an), some (.ref la), some (.ref x), v4, v5, v6] ∧ GOk K H H2 x rooms able rest had g ∧ ∀ u, had.getD u 0 = if u < i then needs.getD u 0 else 0)
      ⟨_, _, _, _, _, _, rfl, GO1, fun u => ?_⟩ (fun i σ H2 _ ⟨_, _, _, _, _, _, _, GO2, _⟩ => GO2.at_.same.seq hN) ?_ ?_
    · rw [if_neg (Nat.not_lt_zero u), List.getD_eq_getElem?_getD, List.getElem?_replicate]
      split <;> rfl
    · rintro i y σ H2 H3 hi ⟨rest, had, g, v4, v5, v6, rfl, GO2, hhad⟩ ⟨t, a, b, rfl, ht, rfl, ea, eb⟩
      cases ea
      have hi' : i < needs.length := by rw [intsV_len] at hi; exact hi
      have hia : i < able.length := by omega
      obtain ⟨z, hz⟩ : ∃ z, needs[i]? = some z := ⟨needs[i], List.getElem?_eq_getElem hi'⟩
      have eb2 := (intsV_get hz).symm.trans eb
      cases eb2
      obtain ⟨z0, z1⟩ := hn0 z (List.mem_of_getElem? hz)
      have hzD : needs.getD i 0 = z := by rw [List.getD_eq_getElem?_getD, hz]; rfl
      have st := same_new (o := .tup [V.int (i : Nat), V.int z]) ht
      have hhi : had.getD i 0 = 0 := by rw [hhad i, if_neg (Nat.lt_irrefl _)]
      obtain ⟨dx2, lr, la2, dg, lh, vn, kvs, hx, _⟩ := GO2.at_.ex
      have ez : V.int z = V.int ((z.toNat : Nat) : Int) := by rw [Int.toNat_of_nonneg z0]
      have hih : i < had.length := by rw [GO2.giv.mh]; exact hia
      refine ⟨t, _, rfl, SqT.of upd_same, rfl, _, _, rfl, _, _, rfl, rfl, ?_⟩
      refine ⟨_, rfl, x, dx2, _, rfl, st _ _ hx, gfs_no (by decide +kernel), _, rfl, _, rfl, H, x, i, z.toNat, rooms, able, rest, had, g, ?_, ⟨GO2.at_.more st, GO2.giv, hal, hrl⟩, hia, by omega, fun H4 rest' had' g' GO4 e4 => ?_, fun H4 p rest' had' g' k ms GO4 hk e4 hp _ HD => ?_⟩
      · show [V.ref x, V.int (i : Nat), V.int z] = _
        rw [ez]
      · refine ⟨_, rfl, rfl, _, rfl, iteF ⟨rest', had', g', _, _, _, rfl, GO4, fun u => ?_⟩⟩
        rw [e4, KF.getD_set]
        by_cases e : u = i
        · subst e
          rw [if_pos ⟨rfl, hih⟩, if_pos (by omega), hhi, hzD]
          omega
        · rw [if_neg (fun q => e q.1), hhad u]
          by_cases e2 : u < i
          · rw [if_pos e2, if_pos (by omega)]
          · rw [if_neg e2, if_neg (by omega)]
      · refine ⟨_, rfl, rfl, _, rfl, iteT ⟨_, rfl, _, rfl, by show 2 ≤ sizeLine; decide, fun t2 ht2 => ?_⟩⟩
        have s5 := same_new (o := .tup [V.ref x, V.ref p]) ht2
        have hus : ∀ u, had'.getD u 0 = if u = i then ((k : Nat) : Int) else if u < i then needs.getD u 0 else 0 := fun u => by
          rw [e4, KF.getD_set]
          by_cases e : u = i
          · subst e
            rw [if_pos ⟨rfl, hih⟩, if_pos rfl, hhi]
            omega
          · rw [if_neg (fun q => e q.1), if_neg e, hhad u]
        refine kL _ t2 x p ms (fun F => ?_) (GO4.at_.same.trans s5) upd_same (s5 _ _ hp) (Nat.le_trans (nodup_len HD.nd HD.lt) hal) HD.lt
        have hl : had'.length = needs.length := by rw [GO4.giv.mh, hnl]
        have q := GO4.giv.cut HD.cl hl (w := i) (by rw [hl]; exact hi') (decide_eq_true HD.mem) (fun u hu hp2 => ?_) ?_
        · exact absurd (F fun u => decide (u ∈ ms)) (by omega)
        · have hm := of_decide_eq_true hp2
          rw [hus u]
          by_cases e : u = i
          · subst e
            rw [if_pos rfl, hzD]
            omega
          · rw [if_neg e]
            by_cases e2 : u < i
            · rw [if_pos e2]
              exact Int.le_refl _
            · exfalso
              rcases HD.gv u hm with q | ⟨s, hs⟩
              · exact e q
              · have c := GO4.giv.col u (HD.lt u hm)
                rw [hus u, if_neg e, if_neg e2] at c
                have le := KF.sumR_one_le (f := fun s => g' s u) (n := rooms.length) (i := s) (fun j _ => GO4.giv.g0 j u) (GO4.giv.ab' (GO4.giv.gp s u hs).2)
                have le' : g' s u ≤ 0 := by rw [c]; exact le
                omega
        · rw [hus i, if_pos rfl, hzD]
          omega
    · rintro σ H2 ⟨rest, had, g, v4, v5, v6, rfl, GO2, hhad⟩
      refine ⟨_, rfl, by show 2 ≤ sizeLine; decide, fun t ht => ?_⟩
      have st := same_new (o := .tup [V.ref x, V.non]) ht
      have e : had = needs := by
        have hl : had.length = needs.length := by rw [GO2.giv.mh, hnl]
        refine List.ext_getElem? fun u => ?_
        by_cases hu : u < had.length
        · have q := hhad u
          rw [intsV_len] at q
          rw [if_pos (by omega)] at q
          rw [getD_at hu, q, getD_at (by omega)]
        · rw [List.getElem?_eq_none (by omega), List.getElem?_eq_none (by omega)]
      subst e
      exact kN _ t x rest g ⟨GO2.at_.more st, GO2.giv, hal, hrl⟩ upd_same (Same.free GO2.at_.same ht)
end
end KS
set_option Elab.async false
set_option linter.all false
set_option maxRecDepth 100000
set_option maxHeartbeats 8000000
set_option pp.maxSteps 400
/-! promises: wishes_of, ables_of, rooms_of. -/
namespace KS
open PySem PySem.Spec PyProof.Rows L2
section
variable {P : Program} {w : World} {K : PySem.W.Frag} {mg : Str → Option Value} {base : Heap}
theorem nl_strs (l : List Str) : nl (strsD l) = true := by
  show nlAll (l.map .str) = true
  rw [nlAll_iff]
  intro x hx
  obtain ⟨s, _, rfl⟩ := List.mem_map.mp hx
  rfl
theorem FW.nl (f : FW) : nl f.d = true := by
  show (true && (true && (KS.nl (strsD f.its) && (true && (true && (true && true)))))) = true
  rw [nl_strs]
  rfl
theorem nlAll_map {α : Type} (f : α → PyData) (l : List α) (h : ∀ x ∈ l, nl (f x) = true) : nlAll (l.map f) = true := by
  rw [nlAll_iff]
  intro x hx
  obtain ⟨s, hs, rfl⟩ := List.mem_map.mp hx
  exact h s hs
theorem wishes1_map (o : Order) : (List.range o.ws.length).filterMap (fun i => o.ws[i]?.map fun x => FW.d ⟨o.n, i, x.its, o.r, x.cnt, o.by_⟩) = (wishesOf1 o).map FW.d := by
  have e : (fun i : Nat => o.ws[i]?.map fun x => FW.d ⟨o.n, i, x.its, o.r, x.cnt, o.by_⟩) = fun i => ((wishesOf1 o).map FW.d)[i]?.map id := by
    funext i
    unfold wishesOf1
    rw [List.getElem?_map, List.getElem?_mapIdx]
    cases o.ws[i]? <;> rfl
  have hl : ((wishesOf1 o).map FW.d).length = o.ws.length := by
    unfold wishesOf1
    rw [List.length_map, List.length_mapIdx]
  rw [e, ← hl, fm_get_map, List.map_id]
theorem wishesOf_snoc (os : List Order) (o : Order) : wishesOf (os ++ [o]) = wishesOf os ++ wishesOf1 o := by
  unfold wishesOf
  rw [List.flatMap_append]
  simp
theorem wishesOf_len (os : List Order) (h : ∀ o ∈ os, o.ws.length ≤ 3) : (wishesOf os).length ≤ os.length * 3 := by
  induction os with
  | nil => exact Nat.le_refl _
  | cons o r ih =>
    have q := ih fun x hx => h x (List.mem_cons_of_mem _ hx)
    have q2 := h o List.mem_cons_self
    unfold wishesOf at q ⊢
    rw [List.flatMap_cons, List.length_append, List.length_cons]
    have e : (wishesOf1 o).length = o.ws.length := by
      unfold wishesOf1
      rw [List.length_mapIdx]
    omega
def spWishesOf (K : PySem.W.Frag) : Sp := fun vs H Q _ => ∃ (a : Addr) (xs : List V) (os : List Order), vs = [.ref a] ∧ SqL K H a xs ∧ DpAll K H xs (os.map Order.d) ∧ os.length ≤ 13 ∧ (∀ o ∈ os, o.ws.length ≤ 3) ∧
  ∀ (p : Addr) (ys : List V) (H' : Hp), Same H H' → H p = none → H' p = some (.lst ys) → DpAll K H' ys ((wishesOf os).map FW.d) → Q (.ref p) H'
theorem sc_wishesof : FnScope ["orders", "found", "name", "region", "wishes", "by", "worth", "at", "items", "count"] ["orders"] (defScope (tp 43)) := ⟨rfl, rfl, rfl, by decide +kernel, rfl, by decide +kernel, by decide +kernel⟩
theorem ok_wishesof (T : Tx K mg) : Ok P w K mg base CX0 1 "wishes_of" ["orders"] (spWishesOf K) := by
  have sc := sc_wishesof
  refine Ok.mk_ (i := 43) T (by decide +kernel) sc (fun _ _ _ _ _ _ us hl => match us, hl with | [_], _ => rfl) (fun vs H Q E h => ?_) (fun f cdv A outer s H vs Q E hr h => ?_)
  · obtain ⟨a, xs, os, rfl, _⟩ := h
    rfl
  · obtain ⟨a, xs, os, rfl, hS, hA, hlen, hws, k⟩ := h
    have hl := hA.length
    rw [List.length_map] at hl
    refine ⟨_, pss_cons (ps_set (i := 1) sc.nd rfl (Or.inl rfl) (pe_lst pa_nil))
      (pss_cons (ps_for PassesOwn.never rfl (pi_list (pv 0)) (k_pg_tup (K := K) (n := 5) rfl rfl (pgs_cons (pg_name (i := 2) sc.nd rfl (Or.inr rfl)) (pgs_cons (pg_name (i := 3) sc.nd rfl (Or.inr rfl)) (pgs_cons (pg_name (i := 4) sc.nd rfl (Or.inl rfl)) (pgs_cons (pg_name (i := 5) sc.nd rfl (Or.inr rfl)) (pgs_cons (pg_name (i := 6) sc.nd rfl (Or.inl rfl)) pgs_nil))))))
        (pss_one (ps_expr (pe_bm PySem.F.plainAttrs_list PySem.F.slot_list_extend PySem.F.type_list_extend mt_extend (pv 1) (pa_cons (pe_lc (own := [("at", 7), ("items", 8), ("count", 9)]) rfl sc.nd (pi_enumT rfl (T.free _ (by decide +kernel)) (pa_cons (pv 4) pa_nil)) (blkOk_by (own := [("at", 7), ("items", 8), ("count", 9)]) (N := ["orders", "found", "name", "region", "wishes", "by", "worth", "at", "items", "count"]) (sc := defScope (tp 43)) (by decide +kernel)) (fun _ _ _ _ _ => k_pg_tup (K := K) (n := 2) rfl rfl (pgs_cons (pg_name (i := 7) sc.nd rfl (Or.inl rfl)) (pgs_cons (k_pg_tup (K := K) (n := 2) rfl rfl (pgs_cons (pg_name (i := 8) sc.nd rfl (Or.inl rfl)) (pgs_cons (pg_name (i := 9) sc.nd rfl (Or.inl rfl)) pgs_nil))) pgs_nil))) (fun _ _ _ _ _ => pts_nil) (fun _ _ _ _ _ => pe_tup (pa_cons (pv 2) (pa_cons (pv 7) (pa_cons (pv 8) (pa_cons (pv 3) (pa_cons (pv 9) (pa_cons (pv 5) pa_nil)))))))) pa_nil)))))
      (pss_one (ps_ret (pv 1)))), ?_⟩
    refine ⟨by show 0 ≤ sizeLine; decide, fun p hp => ?_⟩
    refine ⟨_, rfl, a, rfl, ⟨_, (same_new hp).seq hS⟩, ?_⟩
    refine for_it (walk_list (xs := xs)) (fun i σ H1 => ∃ (ys : List V) (v2 v3 v4 v5 v6 v7 v8 v9 : Option V), σ = [some (.ref a), some (.ref p), v2, v3, v4, v5, v6, v7, v8, v9] ∧ Same H H1 ∧ H1 p = some (.lst ys) ∧ DpAll K H1 ys ((wishesOf (os.take i)).map FW.d))
      ⟨[], _, _, _, _, _, _, _, _, rfl, same_new hp, upd_same, .nil⟩ (fun i σ H1 _ ⟨_, _, _, _, _, _, _, _, _, _, s1, _⟩ => s1.seq hS) ?_ ?_
    · rintro i y σ H1 H2 hi ⟨ys, v2, v3, v4, v5, v6, v7, v8, v9, rfl, s1, hp1, hd1⟩ ⟨rfl, hx⟩
      obtain ⟨d, hda, hdb⟩ := hA.get' hx
      rw [List.getElem?_map] at hda
      obtain ⟨o, ho, rfl⟩ := Option.map_eq_some_iff.mp hda
      obtain ⟨b, aw, rfl, hB, hW⟩ := order_at (hdb.same s1)
      obtain ⟨bw, xw, rfl, hBw, hAw⟩ := Dp.tup_inv hW
      have lw := hAw.length
      rw [List.length_map] at lw
      have hom : o ∈ os := List.mem_of_getElem? ho
      have l3 := hws o hom
      have tk : os.take (i + 1) = os.take i ++ [o] := by
        rw [List.take_add_one, ho]
        rfl
      refine ⟨b, _, rfl, hB, rfl, _, _, rfl, _, _, rfl, _, _, rfl, _, _, rfl, _, _, rfl, rfl, ?_⟩
      refine ⟨_, rfl, .inl ⟨rfl, _, SqL.of hp1⟩, _, rfl, bw, xw, rfl, hBw, ?_⟩
      refine lc_dat (K := K) (walk_enumT (xs := xw)) (fun i => o.ws[i]?.map fun x => FW.d ⟨o.n, i, x.its, o.r, x.cnt, o.by_⟩) (fun j d _ e => ?_) (by omega) (fun H3 s3 => same_t s3 hBw) (fun j z H3 H4 Rn Ry hj s3 hY hn hy => ?_) (fun D acc H3 hD s3 h3 h3d => ?_)
      · obtain ⟨x, _, rfl⟩ := Option.map_eq_some_iff.mp e
        exact FW.nl _
      · obtain ⟨t, e1, e2, rfl, ht, rfl, ea, eb⟩ := hY
        cases ea
        obtain ⟨d, hd2, hd3⟩ := hAw.get' eb
        rw [List.getElem?_map] at hd2
        obtain ⟨x, hx2, rfl⟩ := Option.map_eq_some_iff.mp hd2
        have st := same_new (o := .tup [V.int (j : Nat), e2]) ht
        obtain ⟨c, ci, rfl, hC, hCi⟩ := wish_at (hd3.same (s3.trans st))
        refine ⟨t, _, rfl, SqT.of upd_same, rfl, _, _, rfl, _, _, rfl, ⟨c, _, rfl, hC, rfl, _, _, rfl, _, _, rfl, rfl, rfl, ?_⟩⟩
        refine ⟨rfl, _, rfl, _, rfl, _, rfl, _, rfl, _, rfl, _, rfl, by show 6 ≤ sizeLine; decide, fun q hq => ?_⟩
        have sq := same_new (o := .tup [V.str o.n, .int (j : Nat), ci, .str o.r, .int x.cnt, .int o.by_]) hq
        refine hy (FW.d ⟨o.n, j, x.its, o.r, x.cnt, o.by_⟩) (by rw [hx2]; rfl) _ _ (st.trans sq) (.tup (SqT.of upd_same) ?_)
        exact .cons (.str _) (.cons (.int _) (.cons (hCi.same sq) (.cons (.str _) (.cons (.int _) (.cons (.int _) .nil)))))
      · rw [lw, wishes1_map] at h3d
        have pD : p ≠ D := ne_of_none hp1 hD
        have lA := hd1.length
        have lB := h3d.length
        rw [List.length_map] at lA lB
        have q1 := wishesOf_len (os.take i) fun z hz => hws z (List.mem_of_mem_take hz)
        rw [List.length_take] at q1
        have q2 : (wishesOf1 o).length = o.ws.length := by
          unfold wishesOf1
          rw [List.length_mapIdx]
        refine ⟨p, D, ys, acc, rfl, rfl, s3 _ _ hp1, h3, ?_, ?_⟩
        · exact Nat.le_trans (by omega : ys.length + acc.length ≤ 100) (by decide)
        refine ⟨ys ++ acc, _, _, _, _, _, _, _, _, rfl, same_mut (s1.trans s3) hp, upd_same, ?_⟩
        rw [tk, wishesOf_snoc, List.map_append]
        have hk : ∀ b zs, SqT K H3 b zs → SqT K (upd H3 p (.lst (ys ++ acc))) b zs := fun b zs hz => t_updL (s3 _ _ hp1) hz
        exact DpAll.append (dpAll_keep hk (nlAll_map _ _ fun _ _ => FW.nl _) (hd1.same s3)) (dpAll_keep hk (nlAll_map _ _ fun _ _ => FW.nl _) h3d)
    · rintro σ H1 ⟨ys, v2, v3, v4, v5, v6, v7, v8, v9, rfl, s1, hp1, hd1⟩
      rw [hl, List.take_length] at hd1
      exact ⟨_, rfl, k p ys H1 s1 hp hp1 hd1⟩
/-! ### rooms_of -/
def spRoomsOf (K : PySem.W.Frag) : Sp := fun vs H Q _ => ∃ (vc : V) (c : Cat), vs = [vc] ∧ Dp K H vc c.d ∧ c.sups.length ≤ 14 ∧ ∀ (p : Addr) (H' : Hp), Same H H' → H p = none → H' p = some (.lst (intsV (roomsOf c))) → Q (.ref p) H'
theorem sc_roomsof : FnScope ["catalog", "supply"] ["catalog"] (defScope (tp 45)) := ⟨rfl, rfl, rfl, by decide +kernel, rfl, by decide +kernel, by decide +kernel⟩
theorem ok_roomsof (T : Tx K mg) : Ok P w K mg base CX0 1 "rooms_of" ["catalog"] (spRoomsOf K) := by
  have sc := sc_roomsof
  refine Ok.mk_ (i := 45) T (by decide +kernel) sc (fun _ _ _ _ _ _ us hl => match us, hl with | [_], _ => rfl) (fun vs H Q E h => ?_) (fun f cdv A outer s H vs Q E hr h => ?_)
  · obtain ⟨vc, c, rfl, _⟩ := h
    rfl
  · obtain ⟨vc, c, rfl, hc, hn, k⟩ := h
    obtain ⟨ac, vh, vr, vi, vl, vs, rfl, C⟩ := cat_at hc
    obtain ⟨as, xs, rfl, hSu, hAS⟩ := Dp.tup_inv C.s
    have ls := hAS.length
    rw [List.length_map] at ls
    refine ⟨_, pss_one (ps_ret (pe_lc (own := [("supply", 1)]) rfl sc.nd (pi_tup (pe_ix (k_ix_tup (K := K) rfl) (pv 0) (pe_ci T (x := "SUPPLIES") (i := 4) (by decide +kernel)) (fun _ _ => rfl))) (blkOk_by (own := [("supply", 1)]) (N := ["catalog", "supply"]) (sc := defScope (tp 45)) (by decide +kernel)) (fun _ _ _ _ _ => pg_name (i := 1) sc.nd rfl (Or.inl rfl)) (fun _ _ _ _ _ => pts_nil) (fun _ _ _ _ _ => pe_ix (k_ix_tup (K := K) rfl) (pv 1) (pe_int) (fun _ _ => rfl)))), ?_⟩
    refine ⟨_, rfl, ac, _, _, _, rfl, rfl, C.t, rfl, as, rfl, ⟨_, hSu⟩, ?_⟩
    refine lc_gen (walk_tup (xs := xs)) (fun i => c.sups[i]?.map fun x => .int x.cnt) (by omega) (fun H1 s1 => same_t s1 hSu) (fun i y H1 H2 Rn Ry hi s1 hY hn hy => ?_) (fun D H1 hD s1 h1 => ?_)
    · obtain ⟨rfl, hx⟩ := hY
      obtain ⟨d, hd1, hd2⟩ := hAS.get' hx
      rw [List.getElem?_map] at hd1
      obtain ⟨l, hl, rfl⟩ := Option.map_eq_some_iff.mp hd1
      obtain ⟨b, rfl, hb⟩ := sup_at (hd2.same s1)
      exact ⟨rfl, _, rfl, b, _, _, _, rfl, rfl, hb, rfl, hy _ (by rw [hl]; rfl) _ (Same.refl _)⟩
    · have e : (List.range xs.length).filterMap (fun i => c.sups[i]?.map fun x => V.int x.cnt) = intsV (roomsOf c) := by
        rw [ls, fm_get_map]
        unfold intsV roomsOf
        rw [List.map_map]
        rfl
      rw [e] at h1
      exact k D H1 s1 hD h1
/-! ### ables_of -/
def spAblesOf (K : PySem.W.Frag) : Sp := fun vs H Q _ => ∃ (vc : V) (a : Addr) (xs : List V) (c : Cat) (ws : List FW), vs = [vc, .ref a] ∧ Dp K H vc c.d ∧ c.Ok ∧ SqL K H a xs ∧ DpAll K H xs (ws.map FW.d) ∧ ws.length ≤ 100 ∧ (∀ f ∈ ws, nameOk f.r = true) ∧
  ∀ (p : Addr) (as : List Addr) (H' : Hp), Same H H' → H p = none → H' p = some (.lst (as.map V.ref)) → as.length = (ablesOf c ws).length → (∀ (i : Nat) (b : Addr) (l : List Nat), as[i]? = some b → (ablesOf c ws)[i]? = some l → SqL K H' b (natsV l)) → Q (.ref p) H'
theorem sc_ablesof : FnScope ["catalog", "wishes", "wish"] ["catalog", "wishes"] (defScope (tp 44)) := ⟨rfl, rfl, rfl, by decide +kernel, rfl, by decide +kernel, by decide +kernel⟩
theorem ok_ablesof (T : Tx K mg) (d_servers : Ok P w K mg base CX0 3 "servers" ["catalog", "items", "region", "by"] (spServers K)) : Ok P w K mg base CX0 4 "ables_of" ["catalog", "wishes"] (spAblesOf K) := by
  have sc := sc_ablesof
  refine Ok.mk_ (i := 44) T (by decide +kernel) sc (fun _ _ _ _ _ _ us hl => match us, hl with | [_, _], _ => rfl) (fun vs H Q E h => ?_) (fun f cdv A outer s H vs Q E hr h => ?_)
  · obtain ⟨vc, a, xs, c, ws, rfl, _⟩ := h
    rfl
  · obtain ⟨vc, a, xs, c, ws, rfl, hc, ok, hS, hA, hlen, hnm, k⟩ := h
    have hl := hA.length
    rw [List.length_map] at hl
    have hlab : (ablesOf c ws).length = ws.length := List.length_map ..
    refine ⟨_, pss_one (ps_ret (pe_lc (own := [("wish", 2)]) rfl sc.nd (pi_list (pv 1)) (blkOk_by (own := [("wish", 2)]) (N := ["catalog", "wishes", "wish"]) (sc := defScope (tp 44)) (by decide +kernel)) (fun _ _ _ _ _ => pg_name (i := 2) sc.nd rfl (Or.inl rfl)) (fun _ _ _ _ _ => pts_nil) (fun _ _ _ _ _ => pe_fn d_servers (hr.mono (by decide)) pass0 (pa_cons (pv 0) (pa_cons (pe_ix (k_ix_tup (K := K) rfl) (pv 2) (pe_int) (fun _ _ => rfl)) (pa_cons (pe_ix (k_ix_tup (K := K) rfl) (pv 2) (pe_int) (fun _ _ => rfl)) (pa_cons (pe_ix (k_ix_tup (K := K) rfl) (pv 2) (pe_int) (fun _ _ => rfl)) pa_nil))))))), ?_⟩
    refine ⟨_, rfl, a, rfl, ⟨_, hS⟩, fun D hD => ?_⟩
    refine lc_it (walk_list (xs := xs)) (fun i H1 => Same H H1 ∧ ∃ as : List Addr, H1 D = some (.lst (as.map V.ref)) ∧ as.length = i ∧ ∀ (j : Nat) (b : Addr) (l : List Nat), as[j]? = some b → (ablesOf c ws)[j]? = some l → H1 b = some (.lst (natsV l)) ∧ b ≠ D)
      ⟨same_new hD, [], upd_same, rfl, fun j b l e => by simp at e⟩ (fun i H1 _ p => p.1.seq hS) (fun i y H1 H2 hi p hY => ?_) (fun H1 p => ?_)
    · obtain ⟨s1, as, hD1, las, hall⟩ := p
      obtain ⟨rfl, hx⟩ := hY
      obtain ⟨d, hd1, hd2⟩ := hA.get' hx
      rw [List.getElem?_map] at hd1
      obtain ⟨f, hf, rfl⟩ := Option.map_eq_some_iff.mp hd1
      obtain ⟨b, bi, rfl, hb, hbi⟩ := fw_at (hd2.same s1)
      have hfm : f ∈ ws := List.mem_of_getElem? hf
      refine ⟨rfl, _, rfl, _, rfl, b, _, _, _, rfl, rfl, hb, rfl, _, rfl, b, _, _, _, rfl, rfl, hb, rfl, _, rfl, b, _, _, _, rfl, rfl, hb, rfl, vc, bi, c, f.its, f.r, f.by_, rfl, hc.same s1, ok, hbi, hnm f hfm, fun q H3 s3 hq h3 => ?_⟩
      have hqD : q ≠ D := (ne_of_none hD1 hq).symm
      refine ⟨as.map V.ref, s3 _ _ hD1, ?_, same_mut (s1.trans s3) hD, as ++ [q], ?_, by rw [List.length_append, las]; rfl, fun j b2 l e1 e2 => ?_⟩
      · rw [List.length_map, las]
        exact Nat.lt_of_le_of_lt (by omega : i ≤ 100) (by decide)
      · rw [upd_same, List.map_append]
        rfl
      · by_cases hj : j < as.length
        · rw [List.getElem?_append_left hj] at e1
          obtain ⟨g1, g2⟩ := hall j b2 l e1 e2
          exact ⟨by rw [upd_ne g2]; exact s3 _ _ g1, g2⟩
        · rw [List.getElem?_append_right (by omega)] at e1
          by_cases e : j - as.length = 0
          · rw [e] at e1
            cases e1
            have ej : j = i := by omega
            subst ej
            have e3 : (ablesOf c ws)[j]? = some (servers c f.its f.r f.by_) := by
              unfold ablesOf
              rw [List.getElem?_map, hf]
              rfl
            rw [e3] at e2
            cases e2
            exact ⟨by rw [upd_ne hqD]; exact h3, hqD⟩
          · rw [List.getElem?_eq_none (by simp; omega)] at e1
            cases e1
    · obtain ⟨s1, as, hD1, las, hall⟩ := p
      exact k D as H1 s1 hD hD1 (by rw [las, hl, hlab]) fun i b l e1 e2 => SqL.of (hall i b l e1 e2).1
end
end KS
set_option Elab.async false
set_option linter.all false
set_option maxRecDepth 100000
set_option maxHeartbeats 8000000
set_option pp.maxSteps 400
/-! promises: told_of, kept. -/
namespace KS
open PySem PySem.Spec PyProof.Rows L2
/-- a send: order, place of the wish, supply, count -/
structure Send where
  n : Str
  at_ : Nat
  s : Str
  cnt : Int
def Send.d (x : Send) : PyData := .tuple [.str x.n, .int (x.at_ : Nat), .str x.s, .int x.cnt]
theorem Send.nl (x : Send) : nl x.d = true := rfl
/-- what is sent for the wish at u -/
def sendsAt (c : Cat) (ws : List FW) (g : Nat → Nat → Int) (u s : Nat) : Option Send := match ws[u]?, c.sups[s]? with
  | some f, some x => if 0 < g s u then some ⟨f.n, f.at_, x.n, g s u⟩ else none
  | _, _ => none
def sendsU (c : Cat) (ws : List FW) (g : Nat → Nat → Int) (u k : Nat) : List Send := (List.range k).filterMap (sendsAt c ws g u)
def sendsTo (c : Cat) (ws : List FW) (g : Nat → Nat → Int) (m : Nat) : List Send := (List.range m).flatMap fun u => sendsU c ws g u c.sups.length
def sendsOf (c : Cat) (ws : List FW) (g : Nat → Nat → Int) : List Send := sendsTo c ws g ws.length
theorem sendsU_succ (c : Cat) (ws : List FW) (g : Nat → Nat → Int) (u k : Nat) : sendsU c ws g u (k + 1) = sendsU c ws g u k ++ (sendsAt c ws g u k).toList := range_fm_succ _ _
theorem sendsTo_succ (c : Cat) (ws : List FW) (g : Nat → Nat → Int) (m : Nat) : sendsTo c ws g (m + 1) = sendsTo c ws g m ++ sendsU c ws g m c.sups.length := by
  unfold sendsTo
  rw [List.range_succ, List.flatMap_append]
  simp
theorem sendsU_len (c : Cat) (ws : List FW) (g : Nat → Nat → Int) (u k : Nat) : (sendsU c ws g u k).length ≤ k := range_fm_len _ _
theorem sendsTo_len (c : Cat) (ws : List FW) (g : Nat → Nat → Int) : ∀ m : Nat, (sendsTo c ws g m).length ≤ m * c.sups.length
  | 0 => Nat.zero_le _
  | m + 1 => by
    rw [sendsTo_succ, List.length_append, Nat.succ_mul]
    exact Nat.add_le_add (sendsTo_len c ws g m) (sendsU_len c ws g m _)
section
variable {P : Program} {w : World} {K : PySem.W.Frag} {mg : Str → Option Value} {base : Heap}
def spToldOf (K : PySem.W.Frag) : Sp := fun vs H Q _ => ∃ (vc vm : V) (a x : Addr) (xs : List V) (c : Cat) (ws : List FW), vs = [vc, .ref a, .ref x, vm] ∧ Dp K H vc c.d ∧ c.sups.length ≤ 14 ∧ SqL K H a xs ∧ DpAll K H xs (ws.map FW.d) ∧ ws.length ≤ 100 ∧
  ((∃ (p : Addr) (ms : List Nat), vm = .ref p ∧ SqL K H p (natsV ms) ∧ ms.length ≤ 100 ∧ (∀ v ∈ ms, v < ws.length) ∧ ∀ (t : Addr) (v : V) (H' : Hp), Same H H' → H' t = some (.tup [.str "cut", v]) → Q (.ref t) H') ∨
   (∃ (H0 : Hp) (able : List (List Nat)) (n : Nat) (rest had : List Int) (g : Nat → Nat → Int), vm = .non ∧ GAt K H0 H x able n rest had g ∧ ∀ (t : Addr) (v : V) (H' : Hp), Same H H' → H' t = some (.tup [.str "plan", v]) → Dp K H' v (.tuple ((sendsOf c ws g).map Send.d)) → Q (.ref t) H'))
theorem sc_toldof : FnScope ["catalog", "wishes", "giving", "met", "found", "wish", "supply", "count", "at"] ["catalog", "wishes", "giving", "met"] (defScope (tp 46)) := ⟨rfl, rfl, rfl, by decide +kernel, rfl, by decide +kernel, by decide +kernel⟩
theorem ok_toldof (T : Tx K mg) : Ok P w K mg base CX0 1 "told_of" ["catalog", "wishes", "giving", "met"] (spToldOf K) := by
  have sc := sc_toldof
  refine Ok.mk_ (i := 46) T (by decide +kernel) sc (fun _ _ _ _ _ _ us hl => match us, hl with | [_, _, _, _], _ => rfl) (fun vs H Q E h => ?_) (fun f cdv A outer s H vs Q E hr h => ?_)
  · obtain ⟨vc, vm, a, x, xs, c, ws, rfl, _⟩ := h
    rfl
  · obtain ⟨vc, vm, a, x, xs, c, ws, rfl, hc, hn, hS, hA, hlen, alt⟩ := h
    obtain ⟨ac, vh, vr, vi, vl, vs, rfl, C⟩ := cat_at hc
    obtain ⟨as, xu, rfl, hSu, hAS⟩ := Dp.tup_inv C.s
    have ls := hAS.length
    rw [List.length_map] at ls
    have hl := hA.length
    rw [List.length_map] at hl
    refine ⟨_, pss_cons (ps_if (pt_cmpR op_notN (pv 3) (pe_non) (nomark _))
        (pss_one (ps_ret (pe_tup (pa_cons (pe_cs T (x := "CUT") (z := "cut") (by decide +kernel)) (pa_cons (pe_callTy (k_tuple (K := K) rfl) (by rfl) (T.free _ (by decide +kernel)) (by decide +kernel) (pa_cons (pe_lc (own := [("at", 8)]) rfl sc.nd (pi_list (pv 3)) (blkOk_by (own := [("at", 8)]) (N := ["catalog", "wishes", "giving", "met", "found", "wish", "supply", "count", "at"]) (sc := defScope (tp 46)) (by decide +kernel)) (fun _ _ _ _ _ => pg_name (i := 8) sc.nd rfl (Or.inl rfl)) (fun _ _ _ _ _ => pts_nil) (fun _ _ _ _ _ => pe_slice (k_sl_tup (K := K) rfl) (pe_ix (k_ix_list (K := K) rfl) (pv 1) (pv 8) (fun _ _ => rfl)) po_none (po_some (pe_int)))) pa_nil)) pa_nil)))))
        (pss_nil))
      (pss_cons (ps_set (i := 4) sc.nd rfl (Or.inl rfl) (pe_lst pa_nil))
      (pss_cons (ps_for PassesOwn.never rfl (pi_range1 rfl (T.free _ (by decide +kernel)) (pa_cons (pe_callB (k_len (K := K) rfl) (by rfl) (T.free _ (by decide +kernel)) (by decide +kernel) (pa_cons (pv 1) pa_nil)) pa_nil)) (pg_name (i := 5) sc.nd rfl (Or.inl rfl))
        (pss_one (ps_for PassesOwn.never rfl (pi_range1 rfl (T.free _ (by decide +kernel)) (pa_cons (pe_callB (k_len (K := K) rfl) (by rfl) (T.free _ (by decide +kernel)) (by decide +kernel) (pa_cons (pe_ix (k_ix_tup (K := K) rfl) (pv 0) (pe_ci T (x := "SUPPLIES") (i := 4) (by decide +kernel)) (fun _ _ => rfl)) pa_nil)) pa_nil)) (pg_name (i := 6) sc.nd rfl (Or.inl rfl))
          (pss_cons (ps_set (i := 7) sc.nd rfl (Or.inl rfl) (pe_dget2 (hu_of hr) (k_pe_fld (K := K) rfl (pv 2) rfl) (pe_tup (pa_cons (pv 6) (pa_cons (pv 5) pa_nil))) (pe_int) ⟨rfl, rfl, rfl, rfl⟩))
          (pss_one (ps_if (pt_cmpR op_gt (pv 7) (pe_int) (nomark _))
            (pss_one (ps_expr (pe_bm PySem.F.plainAttrs_list PySem.F.slot_list_append PySem.F.type_list_append mt_append (pv 4) (pa_cons (pe_op (k_op_catA (K := K) rfl) (pe_slice (k_sl_tup (K := K) rfl) (pe_ix (k_ix_list (K := K) rfl) (pv 1) (pv 5) (fun _ _ => rfl)) po_none (po_some (pe_int))) (pe_tup (pa_cons (pe_ix (k_ix_tup (K := K) rfl) (pe_ix (k_ix_tup (K := K) rfl) (pe_ix (k_ix_tup (K := K) rfl) (pv 0) (pe_ci T (x := "SUPPLIES") (i := 4) (by decide +kernel)) (fun _ _ => rfl)) (pv 6) (fun _ _ => rfl)) (pe_int) (fun _ _ => rfl)) (pa_cons (pv 7) pa_nil)))) pa_nil))))
            (pss_nil)))))))
      (pss_one (ps_ret (pe_tup (pa_cons (pe_cs T (x := "PLAN") (z := "plan") (by decide +kernel)) (pa_cons (pe_callTy (k_tuple (K := K) rfl) (by rfl) (T.free _ (by decide +kernel)) (by decide +kernel) (pa_cons (pv 4) pa_nil)) pa_nil))))))), ?_⟩
    rcases alt with ⟨p, ms, rfl, hP, hml, hmw, k⟩ | ⟨H0, able, n, rest, had, g, rfl, G, k⟩
    · refine ⟨_, rfl, rfl, _, rfl, iteT ?_⟩
      refine ⟨_, rfl, p, rfl, ⟨_, hP⟩, ?_⟩
      refine lc_dat (K := K) (walk_list (xs := natsV ms)) (fun i => ms[i]?.bind fun u => ws[u]?.map fun f => PyData.tuple [.str f.n, .int (f.at_ : Nat)]) (fun i d _ e => ?_) (by rw [natsV_len]; omega) (fun H1 s1 => s1.seq hP) (fun i y H1 H2 Rn Ry hi s1 hY hn' hy => ?_) (fun D acc H1 hD s1 h1 h1d => ?_)
      · obtain ⟨u, _, e⟩ := Option.bind_eq_some_iff.mp e
        obtain ⟨f, _, rfl⟩ := Option.map_eq_some_iff.mp e
        rfl
      · obtain ⟨rfl, hx⟩ := hY
        have hi' : i < ms.length := by rw [natsV_len] at hi; exact hi
        obtain ⟨u, hu⟩ : ∃ u, ms[i]? = some u := ⟨ms[i], List.getElem?_eq_getElem hi'⟩
        have ey := (natsV_get hu).symm.trans hx
        cases ey
        have hul : u < ws.length := hmw u (List.mem_of_getElem? hu)
        obtain ⟨f, hf⟩ : ∃ f, ws[u]? = some f := ⟨ws[u], List.getElem?_eq_getElem hul⟩
        obtain ⟨z, hz, hzd⟩ := hA.get (i := u) (d := f.d) (by rw [List.getElem?_map, hf]; rfl)
        obtain ⟨b, bi, rfl, hb, hbi⟩ := fw_at (hzd.same s1)
        refine ⟨rfl, _, rfl, _, rfl, a, _, _, _, rfl, rfl, s1.seq hS, at_of rfl hz, _, rfl, b, _, rfl, hb, nw2 (n := 6) rfl (by decide), fun q hq => ?_⟩
        refine hy (.tuple [.str f.n, .int (f.at_ : Nat)]) (by rw [hu]; show (ws[u]?.map _) = _; rw [hf]; rfl) _ _ (same_new hq) (.tup (SqT.of upd_same) ?_)
        exact .cons (.str _) (.cons (.int _) .nil)
      · refine ⟨D, _, rfl, .inl ⟨SqL.of h1, fun t1 ht1 => ⟨by show 2 ≤ sizeLine; decide, fun t2 ht2 => ?_⟩⟩⟩
        exact k t2 _ _ ((s1.trans (same_new ht1)).trans (same_new ht2)) upd_same
    · obtain ⟨dx, lr, la, dg, lh, vn, kvs, hx, hlr, hdg, hlh, nrh, x0, lr0, dg0, lh0, GR, AB⟩ := G.ex
      refine ⟨_, rfl, rfl, _, rfl, iteF ?_⟩
      refine ⟨by show 0 ≤ sizeLine; decide, fun p hp => ?_⟩
      refine ⟨_, rfl, a, _, rfl, .inl ((same_new hp).seq hS), _, rfl, by omega, by omega, ?_⟩
      have etn : ((xs.length : Nat) : Int).toNat = ws.length := by rw [Int.toNat_natCast, hl]
      rw [etn]
      refine for_it (walk_range (lo := 0) (n := ws.length)) (fun i σ H1 => ∃ (ys : List V) (v5 v6 v7 v8 : Option V), σ = [some (.ref ac), some (.ref a), some (.ref x), some .non, some (.ref p), v5, v6, v7, v8] ∧ Same H H1 ∧ H1 p = some (.lst ys) ∧ DpAll K H1 ys ((sendsTo c ws g i).map Send.d))
        ⟨[], _, _, _, _, rfl, same_new hp, upd_same, .nil⟩ (fun _ _ _ _ _ => True.intro) ?_ ?_
      · rintro i y σ H1 H2 hi ⟨ys, v5, v6, v7, v8, rfl, s1, hp1, hd1⟩ ⟨rfl, rfl⟩
        have ek : ((0 : Int) + (i : Nat)) = ((i : Nat) : Int) := by omega
        show gName 5 (V.int ((0 : Int) + (i : Nat))) _ _ _
        rw [ek]
        obtain ⟨f, hf⟩ : ∃ f, ws[i]? = some f := ⟨ws[i], List.getElem?_eq_getElem hi⟩
        obtain ⟨z, hz, hzd⟩ := hA.get (i := i) (d := f.d) (by rw [List.getElem?_map, hf]; rfl)
        refine ⟨_, rfl, ac, _, _, _, rfl, rfl, same_t s1 C.t, rfl, as, _, rfl, .inr (same_t s1 hSu), _, rfl, by omega, by omega, ?_⟩
        have etn2 : ((xu.length : Nat) : Int).toNat = c.sups.length := by rw [Int.toNat_natCast, ls]
        rw [etn2]
        refine for_it (walk_range (lo := 0) (n := c.sups.length)) (fun j σ H3 => ∃ (ys : List V) (v6 v7 v8 : Option V), σ = [some (.ref ac), some (.ref a), some (.ref x), some .non, some (.ref p), some (.int (i : Nat)), v6, v7, v8] ∧ Same H H3 ∧ H3 p = some (.lst ys) ∧ DpAll K H3 ys ((sendsTo c ws g i ++ sendsU c ws g i j).map Send.d))
          ⟨ys, _, _, _, rfl, s1, hp1, ?_⟩ (fun _ _ _ _ _ => True.intro) ?_ ?_
        · rw [show sendsU c ws g i 0 = [] from rfl, List.append_nil]
          exact hd1
        · rintro j y σ H3 H4 hj ⟨ys, v6, v7, v8, rfl, s3, hp3, hd3⟩ ⟨rfl, rfl⟩
          have ek : ((0 : Int) + (j : Nat)) = ((j : Nat) : Int) := by omega
          show gName 6 (V.int ((0 : Int) + (j : Nat))) _ _ _
          rw [ek]
          obtain ⟨l, hl2⟩ : ∃ l, c.sups[j]? = some l := ⟨c.sups[j], List.getElem?_eq_getElem hj⟩
          obtain ⟨z2, hz2, hz2d⟩ := hAS.get (i := j) (d := l.d) (by rw [List.getElem?_map, hl2]; rfl)
          have hsat : sendsAt c ws g i j = if 0 < g j i then some ⟨f.n, f.at_, l.n, g j i⟩ else none := by
            unfold sendsAt
            rw [hf, hl2]
          have ldone := hd3.length
          rw [List.length_map, List.length_append] at ldone
          have q1 := sendsTo_len c ws g i
          have q2 := sendsU_len c ws g i j
          have q3 : i * c.sups.length ≤ 100 * 14 := Nat.mul_le_mul (by omega) hn
          refine ⟨_, rfl, x, _, dx, _, _, rfl, s3 _ _ hx, T.gC, T.gN _ (by decide +kernel), gfs_given, dg, rfl, .inr ⟨_, .of (s3 _ _ hdg)⟩, _, rfl, _, rfl, by show 2 ≤ sizeLine; decide, fun q hq => ?_⟩
          have s4 := same_new (o := .tup [V.int (j : Nat), V.int (i : Nat)]) hq
          refine ⟨_, DGet.t (k := kP j i) ((s3.trans s4) _ _ hdg) upd_same, ?_⟩
          rw [GR.val j i]
          refine ⟨_, rfl, _, _, rfl, rfl, _, rfl, ite2 (fun hpos => ?_) fun hnp => ?_⟩
          · have hpos : 0 < g j i := of_decide_eq_true hpos
            have s34 := s3.trans s4
            obtain ⟨b, bi, rfl, hb, hbi⟩ := fw_at (hzd.same s34)
            refine ⟨_, rfl, .inl ⟨rfl, _, SqL.of (s4 _ _ hp3)⟩, ?_⟩
            refine ⟨_, rfl, _, rfl, a, _, _, _, rfl, rfl, s34.seq hS, at_of rfl hz, _, rfl, b, _, rfl, hb, nw2 (n := 6) rfl (by decide), fun q2 hq2 => ?_⟩
            have s5 := s34.trans (same_new (o := .tup (cutV [V.str f.n, .int (f.at_ : Nat), bi, .str f.r, .int f.cnt, .int f.by_] none (some 2))) hq2)
            obtain ⟨b2, rfl, hb2⟩ := sup_at (hz2d.same s5)
            refine ⟨_, rfl, ac, _, _, _, rfl, rfl, same_t s5 C.t, rfl, _, rfl, as, _, _, _, rfl, rfl, same_t s5 hSu, at_of rfl hz2, b2, _, _, _, rfl, rfl, hb2, rfl, _, rfl, by show 2 ≤ sizeLine; decide, fun q3 hq3 => ?_⟩
            have s6 := s5.trans (same_new (o := .tup [V.str l.n, .int (g j i)]) hq3)
            have q23 : q2 ≠ q3 := ne_of_none upd_same hq3
            refine ⟨q2, q3, [.str f.n, .int (f.at_ : Nat)], [.str l.n, .int (g j i)], rfl, rfl, SqT.of (by rw [upd_ne q23]; exact upd_same), SqT.of upd_same, by show 4 ≤ sizeLine; decide, (fun e => by cases e), (fun _ e => by cases e), fun _ _ q4 hq4 => ?_⟩
            have s7 := s6.trans (same_new (o := .tup ([V.str f.n, .int (f.at_ : Nat)] ++ [.str l.n, .int (g j i)])) hq4)
            have s47 : Same H4 _ := ((s4.trans (same_new (o := .tup (cutV [V.str f.n, .int (f.at_ : Nat), bi, .str f.r, .int f.cnt, .int f.by_] none (some 2))) hq2)).trans (same_new (o := .tup [V.str l.n, .int (g j i)]) hq3)).trans (same_new (o := .tup ([V.str f.n, .int (f.at_ : Nat)] ++ [.str l.n, .int (g j i)])) hq4)
            have hp7 := s47 _ _ hp3
            refine ⟨p, _, _, rfl, rfl, hp7, Nat.lt_of_le_of_lt (by omega : ys.length ≤ 2000) (by decide), ?_⟩
            refine ⟨_, _, _, _, rfl, same_mut s7 hp, upd_same, ?_⟩
            rw [sendsU_succ, hsat, if_pos hpos, ← List.append_assoc, List.map_append]
            have hk : ∀ b zs, SqT K _ b zs → SqT K (upd _ p (.lst (ys ++ [V.ref q4]))) b zs := fun b zs hz => t_updL hp7 hz
            refine DpAll.append (dpAll_keep hk (nlAll_map _ _ fun _ _ => rfl) (hd3.same s47)) (.cons (dp_keep hk rfl (.tup (SqT.of upd_same) ?_)) .nil)
            exact .cons (.str _) (.cons (.int _) (.cons (.str _) (.cons (.int _) .nil)))
          · have hnp : ¬ 0 < g j i := fun q => hnp (decide_eq_true q)
            refine ⟨ys, _, _, _, rfl, s3.trans s4, s4 _ _ hp3, ?_⟩
            rw [sendsU_succ, hsat, if_neg hnp]
            simpa using hd3.same s4
        · rintro σ H3 ⟨ys, v6, v7, v8, rfl, s3, hp3, hd3⟩
          refine ⟨ys, _, _, _, _, rfl, s3, hp3, ?_⟩
          rw [sendsTo_succ]
          exact hd3
      · rintro σ H1 ⟨ys, v5, v6, v7, v8, rfl, s1, hp1, hd1⟩
        refine ⟨_, rfl, p, _, rfl, .inl ⟨SqL.of hp1, fun t1 ht1 => ⟨by show 2 ≤ sizeLine; decide, fun t2 ht2 => ?_⟩⟩⟩
        have st := same_new (o := .tup ys) ht1
        have st2 := same_new (o := .tup [V.str "plan", .ref t1]) ht2
        exact k t2 _ _ ((s1.trans st).trans st2) upd_same ((Dp.tup (SqT.of upd_same) (hd1.same st) : Dp K _ (.ref t1) (.tuple ((sendsTo c ws g ws.length).map Send.d))).same st2)
end
end KS
set_option Elab.async false
set_option linter.all false
set_option maxRecDepth 100000
set_option maxHeartbeats 8000000
set_option pp.maxSteps 400
/-! promises: kept. -/
namespace KS
open PySem PySem.Spec PyProof.Rows L2
def needsOf (ws : List FW) : List Int := ws.map FW.cnt
theorem wishes_mem {os : List Order} {f : FW} (h : f ∈ wishesOf os) : ∃ o ∈ os, ∃ (i : Nat) (x : Wish), o.ws[i]? = some x ∧ f = ⟨o.n, i, x.its, o.r, x.cnt, o.by_⟩ := by
  unfold wishesOf at h
  obtain ⟨o, ho, hf⟩ := List.mem_flatMap.mp h
  obtain ⟨i, hi⟩ := List.mem_iff_getElem?.mp hf
  unfold wishesOf1 at hi
  rw [List.getElem?_mapIdx] at hi
  obtain ⟨x, hx, rfl⟩ := Option.map_eq_some_iff.mp hi
  exact ⟨o, ho, i, x, hx, rfl⟩
/-- a wish of an order of the catalog -/
structure FW.Ok (c : Cat) (f : FW) : Prop where
  nn : nameOk f.n = true
  rn : nameOk f.r = true
  names : namesOk f.its 3
  its : ∀ s ∈ f.its, s ∈ c.its
  cnt : 1 ≤ f.cnt ∧ f.cnt ≤ 99
  at_ : f.at_ < 3
theorem wishes_ok {c : Cat} {os : List Order} (h : ∀ o ∈ os, o.Ok c) : ∀ f ∈ wishesOf os, f.Ok c := fun f hf => by
  obtain ⟨o, ho, i, x, hx, rfl⟩ := wishes_mem hf
  have q := h o ho
  have qx := q.ws x (List.mem_of_getElem? hx)
  have qi := (List.getElem?_eq_some_iff.mp hx).1
  have qn := q.wn
  exact ⟨q.nn, q.rn, qx.names, qx.its, qx.cnt, by show i < 3; omega⟩
theorem ables_lt {c : Cat} {ws : List FW} {u : Nat} {l : List Nat} (h : (ablesOf c ws)[u]? = some l) : ∀ s, s ∈ l → s < (roomsOf c).length := fun s hs => by
  unfold ablesOf at h
  rw [List.getElem?_map] at h
  obtain ⟨f, _, rfl⟩ := Option.map_eq_some_iff.mp h
  unfold servers at hs
  have q := (List.mem_filter.mp hs).1
  rw [List.mem_range] at q
  unfold roomsOf
  rw [List.length_map]
  exact q
theorem rooms_nn {c : Cat} (ok : c.Ok) : ∀ z ∈ roomsOf c, 0 ≤ z := fun z hz => by
  obtain ⟨x, hx, rfl⟩ := List.mem_map.mp hz
  exact (ok.sups x hx).cnt.1
section
variable {P : Program} {w : World} {K : PySem.W.Frag} {mg : Str → Option Value} {base : Heap}
def spKept (K : PySem.W.Frag) : Sp := fun vs H Q _ => ∃ (vc : V) (a : Addr) (xs : List V) (c : Cat) (os : List Order), vs = [vc, .ref a] ∧ Dp K H vc c.d ∧ c.Ok ∧ SqL K H a xs ∧ DpAll K H xs (os.map Order.d) ∧ os.length ≤ 13 ∧ (∀ o ∈ os, o.Ok c) ∧
  (∀ (t : Addr) (v : V) (H' : Hp) (rest : List Int) (g : Nat → Nat → Int), KF.Giv (roomsOf c) (ablesOf c (wishesOf os)) rest (needsOf (wishesOf os)) g → Same H H' → H' t = some (.tup [.str "plan", v]) → Dp K H' v (.tuple ((sendsOf c (wishesOf os) g).map Send.d)) → Q (.ref t) H') ∧
  (∀ (t : Addr) (v : V) (H' : Hp), ¬ KF.Feas (roomsOf c) (ablesOf c (wishesOf os)) (needsOf (wishesOf os)) → Same H H' → H' t = some (.tup [.str "cut", v]) → Q (.ref t) H')
theorem sc_kept : FnScope ["catalog", "orders", "wishes", "giving", "met", "wish"] ["catalog", "orders"] (defScope (tp 47)) := ⟨rfl, rfl, rfl, by decide +kernel, rfl, by decide +kernel, by decide +kernel⟩
theorem ok_kept (T : Tx K mg) (d_wishes_of : Ok P w K mg base CX0 1 "wishes_of" ["orders"] (spWishesOf K)) (d_rooms_of : Ok P w K mg base CX0 1 "rooms_of" ["catalog"] (spRoomsOf K)) (d_ables_of : Ok P w K mg base CX0 4 "ables_of" ["catalog", "wishes"] (spAblesOf K))
    (d_given_all : Ok P w K mg base CX0 3 "given_all" ["rooms", "needs", "able"] (spGivenAll K)) (d_told_of : Ok P w K mg base CX0 1 "told_of" ["catalog", "wishes", "giving", "met"] (spToldOf K)) : Ok P w K mg base CX0 5 "kept" ["catalog", "orders"] (spKept K) := by
  have sc := sc_kept
  refine Ok.mk_ (i := 47) T (by decide +kernel) sc (fun _ _ _ _ _ _ us hl => match us, hl with | [_, _], _ => rfl) (fun vs H Q E h => ?_) (fun f cdv A outer s H vs Q E hr h => ?_)
  · obtain ⟨vc, a, xs, c, os, rfl, _⟩ := h
    rfl
  · obtain ⟨vc, a, xs, c, os, rfl, hc, ok, hS, hA, hlen, hos, kP, kC⟩ := h
    have hw3 : ∀ o ∈ os, o.ws.length ≤ 3 := fun o ho => (hos o ho).wn.2
    have wl := wishesOf_len os hw3
    have wok := wishes_ok hos
    have hal : (ablesOf c (wishesOf os)).length = (wishesOf os).length := List.length_map ..
    have hrl : (roomsOf c).length = c.sups.length := List.length_map ..
    have hnl : (needsOf (wishesOf os)).length = (wishesOf os).length := List.length_map ..
    have csn := ok.sn
    refine ⟨_, pss_cons (ps_set (i := 2) sc.nd rfl (Or.inl rfl) (pe_fn d_wishes_of (hr.mono (by decide)) pass0 (pa_cons (pv 1) pa_nil)))
      (pss_cons (ps_asg (pe_fn d_given_all (hr.mono (by decide)) pass0 (pa_cons (pe_fn d_rooms_of (hr.mono (by decide)) pass0 (pa_cons (pv 0) pa_nil)) (pa_cons (pe_lc (own := [("wish", 5)]) rfl sc.nd (pi_list (pv 2)) (blkOk_by (own := [("wish", 5)]) (N := ["catalog", "orders", "wishes", "giving", "met", "wish"]) (sc := defScope (tp 47)) (by decide +kernel)) (fun _ _ _ _ _ => pg_name (i := 5) sc.nd rfl (Or.inl rfl)) (fun _ _ _ _ _ => pts_nil) (fun _ _ _ _ _ => pe_ix (k_ix_tup (K := K) rfl) (pv 5) (pe_int) (fun _ _ => rfl))) (pa_cons (pe_fn d_ables_of (hr.mono (by decide)) pass0 (pa_cons (pv 0) (pa_cons (pv 2) pa_nil))) pa_nil)))) (k_pg_tup (K := K) (n := 2) rfl rfl (pgs_cons (pg_name (i := 3) sc.nd rfl (Or.inl rfl)) (pgs_cons (pg_name (i := 4) sc.nd rfl (Or.inl rfl)) pgs_nil))))
      (pss_one (ps_ret (pe_fn d_told_of (hr.mono (by decide)) pass0 (pa_cons (pv 0) (pa_cons (pv 2) (pa_cons (pv 3) (pa_cons (pv 4) pa_nil)))))))), ?_⟩
    refine ⟨_, rfl, a, xs, os, rfl, hS, hA, hlen, hw3, fun p ys H1 s1 hp hp1 hd1 => ?_⟩
    have ly := hd1.length
    rw [List.length_map] at ly
    refine ⟨_, rfl, vc, c, rfl, hc.same s1, ok.sn, fun pr H2 s2 hpr hpr2 => ?_⟩
    have s02 := s1.trans s2
    refine ⟨_, rfl, p, rfl, ⟨_, SqL.of (s2 _ _ hp1)⟩, ?_⟩
    refine lc_gen (walk_list (xs := ys)) (fun i => (wishesOf os)[i]?.map fun f => .int f.cnt) (by omega) (fun H3 s3 => SqL.of (s3 _ _ (s2 _ _ hp1))) (fun i y H3 H4 Rn Ry hi s3 hY hn hy => ?_) (fun D H3 hD s3 h3 => ?_)
    · obtain ⟨rfl, hx⟩ := hY
      obtain ⟨d, hd1', hd2⟩ := hd1.get' hx
      rw [List.getElem?_map] at hd1'
      obtain ⟨f, hf, rfl⟩ := Option.map_eq_some_iff.mp hd1'
      obtain ⟨b, bi, rfl, hb, _⟩ := fw_at (hd2.same (s2.trans s3))
      exact ⟨rfl, _, rfl, b, _, _, _, rfl, rfl, hb, rfl, hy _ (by rw [hf]; rfl) _ (Same.refl _)⟩
    have e3 : (List.range ys.length).filterMap (fun i => (wishesOf os)[i]?.map fun f => V.int f.cnt) = intsV (needsOf (wishesOf os)) := by
      rw [ly, fm_get_map]
      unfold intsV needsOf
      rw [List.map_map]
      rfl
    rw [e3] at h3
    have s03 := s02.trans s3
    have s13 := s2.trans s3
    refine ⟨_, rfl, _, rfl, vc, p, ys, c, wishesOf os, rfl, hc.same s03, ok, SqL.of (s13 _ _ hp1), hd1.same s13, by omega, fun f hf => (wok f hf).rn, fun pa as H4 s4 hpa hpa4 hasl hasat => ?_⟩
    have s04 := s03.trans s4
    have s14 := s13.trans s4
    refine ⟨pr, D, pa, roomsOf c, needsOf (wishesOf os), ablesOf c (wishesOf os), rfl, SqL.of ((s3.trans s4) _ _ hpr2), SqL.of (s4 _ _ h3), ⟨as, SqL.of hpa4, hasl, hasat⟩, by omega, by omega, by omega, fun u l hl => ables_lt hl, rooms_nn ok, fun z hz => ?_,
      fun H5 t x rest g GO ht htn => ?_, fun H5 t x pm ms hnf s5 ht hpm hml hmw => ?_⟩
    · obtain ⟨f, hf, rfl⟩ := List.mem_map.mp hz
      have q := (wok f hf).cnt
      exact ⟨by omega, by omega⟩
    · have s5 := GO.at_.same
      refine ⟨t, _, rfl, SqT.of ht, rfl, _, _, rfl, _, _, rfl, rfl, ?_⟩
      refine ⟨_, rfl, _, rfl, _, rfl, _, rfl, vc, _, p, x, ys, c, wishesOf os, rfl, hc.same (s04.trans s5), csn, SqL.of ((s14.trans s5) _ _ hp1), hd1.same (s14.trans s5), by omega, .inr ⟨H4, _, _, rest, _, g, rfl, GO.at_, fun t2 v H6 s6 ht2 hv => ?_⟩⟩
      exact kP t2 v H6 rest g GO.giv ((s04.trans s5).trans s6) ht2 hv
    · refine ⟨t, _, rfl, SqT.of ht, rfl, _, _, rfl, _, _, rfl, rfl, ?_⟩
      refine ⟨_, rfl, _, rfl, _, rfl, _, rfl, vc, _, p, x, ys, c, wishesOf os, rfl, hc.same (s04.trans s5), csn, SqL.of ((s14.trans s5) _ _ hp1), hd1.same (s14.trans s5), by omega, .inl ⟨pm, ms, rfl, SqL.of hpm, hml, fun v hv => by rw [← hal]; exact hmw v hv, fun t2 v H6 s6 ht2 => ?_⟩⟩
      exact kC t2 v H6 hnf ((s04.trans s5).trans s6) ht2
end
end KS
set_option Elab.async false
set_option linter.all false
set_option maxRecDepth 100000
set_option maxHeartbeats 4000000
/-! Lots of wishes: what the law reckons, by masks; that it is what the matching finds. -/
namespace KS
open PySem PySem.Spec PyProof.Rows L2
/-- all lots, as the law makes them -/
def lots {α : Type} (l : List α) : List (List α) := l.foldl (fun acc x => acc ++ acc.map fun lot => lot ++ [x]) [[]]
def masked {α : Type} (p : Nat → Bool) (l : List α) : List α := (List.range l.length).filterMap fun i => if p i = true then l[i]? else none
theorem fm_congr {α β : Type} {f g : α → Option β} : ∀ {l : List α}, (∀ x ∈ l, f x = g x) → l.filterMap f = l.filterMap g
  | [], _ => rfl
  | a :: r, h => by
    rw [List.filterMap_cons, List.filterMap_cons, h a List.mem_cons_self, fm_congr fun x hx => h x (List.mem_cons_of_mem _ hx)]
theorem lots_snoc {α : Type} (l : List α) (x : α) : lots (l ++ [x]) = lots l ++ (lots l).map fun lot => lot ++ [x] := by
  unfold lots
  rw [List.foldl_append]
  rfl
theorem masked_snoc {α : Type} (p : Nat → Bool) (l : List α) (x : α) : masked p (l ++ [x]) = masked p l ++ if p l.length = true then [x] else [] := by
  unfold masked
  rw [List.length_append, List.length_singleton, range_fm_succ]
  have e1 : (List.range l.length).filterMap (fun i => if p i = true then (l ++ [x])[i]? else none) = (List.range l.length).filterMap (fun i => if p i = true then l[i]? else none) := by
    refine fm_congr fun i hi => ?_
    rw [List.mem_range] at hi
    rw [List.getElem?_append_left hi]
  rw [e1, List.getElem?_append_right (Nat.le_refl _), Nat.sub_self]
  by_cases h : p l.length = true
  · rw [if_pos h, if_pos h]
    rfl
  · rw [if_neg h, if_neg h]
    rfl
theorem masked_congr {α : Type} {p q : Nat → Bool} {l : List α} (h : ∀ i, i < l.length → p i = q i) : masked p l = masked q l := by
  unfold masked
  refine fm_congr fun i hi => ?_
  rw [List.mem_range] at hi
  rw [h i hi]
theorem snoc_ind {α : Type} {P : List α → Prop} (h0 : P []) (hs : ∀ l x, P l → P (l ++ [x])) (l : List α) : P l := by
  have q : ∀ n (l : List α), l.length = n → P l := by
    intro n
    induction n with
    | zero =>
      intro l hl
      rw [List.length_eq_zero_iff.mp hl]
      exact h0
    | succ n ih =>
      intro l hl
      have hne : l ≠ [] := fun e => by rw [e] at hl; cases hl
      rw [← List.dropLast_concat_getLast hne]
      exact hs _ _ (ih _ (by rw [List.length_dropLast, hl]; rfl))
  exact q _ l rfl
theorem mem_lots {α : Type} (l : List α) : ∀ lot : List α, lot ∈ lots l ↔ ∃ p : Nat → Bool, lot = masked p l := by
  refine snoc_ind (P := fun l => ∀ lot : List α, lot ∈ lots l ↔ ∃ p : Nat → Bool, lot = masked p l) ?_ ?_ l
  · intro lot
    constructor
    · intro h
      exact ⟨fun _ => false, List.mem_singleton.mp h⟩
    · rintro ⟨p, rfl⟩
      exact List.mem_singleton.mpr rfl
  · intro l x ih lot
    rw [lots_snoc, List.mem_append]
    constructor
    · rintro (h | h)
      · obtain ⟨p, rfl⟩ := (ih lot).mp h
        refine ⟨fun i => if i < l.length then p i else false, ?_⟩
        rw [masked_snoc, if_neg (by rw [if_neg (Nat.lt_irrefl _)]; exact Bool.false_ne_true), List.append_nil]
        exact masked_congr fun i hi => (if_pos hi).symm
      · obtain ⟨l2, h2, rfl⟩ := List.mem_map.mp h
        obtain ⟨p, rfl⟩ := (ih l2).mp h2
        refine ⟨fun i => if i < l.length then p i else true, ?_⟩
        rw [masked_snoc, if_pos (by rw [if_neg (Nat.lt_irrefl _)])]
        congr 1
        exact masked_congr fun i hi => (if_pos hi).symm
    · rintro ⟨p, rfl⟩
      rw [masked_snoc]
      by_cases h : p l.length = true
      · rw [if_pos h]
        exact .inr (List.mem_map.mpr ⟨_, (ih _).mpr ⟨p, rfl⟩, rfl⟩)
      · rw [if_neg h, List.append_nil]
        exact .inl ((ih _).mpr ⟨p, rfl⟩)
theorem mem_masked {α : Type} {p : Nat → Bool} {l : List α} {x : α} : x ∈ masked p l ↔ ∃ i, p i = true ∧ l[i]? = some x := by
  unfold masked
  rw [List.mem_filterMap]
  constructor
  · rintro ⟨i, _, h⟩
    by_cases e : p i = true
    · rw [if_pos e] at h
      exact ⟨i, e, h⟩
    · rw [if_neg e] at h
      cases h
  · rintro ⟨i, h1, h2⟩
    exact ⟨i, List.mem_range.mpr (List.getElem?_eq_some_iff.mp h2).1, by rw [if_pos h1]; exact h2⟩
/-! ### what the law reckons -/
def fitsAny (c : Cat) (lot : List FW) (x : Sup) : Bool := lot.any fun f => serves c x f.its f.r f.by_
def over (c : Cat) (lot : List FW) : Int := (lot.map FW.cnt).sum - ((c.sups.filter (fitsAny c lot)).map Sup.cnt).sum
def ableB (c : Cat) (ws : List FW) : Bool := (lots ws).all fun lot => decide (over c lot ≤ 0)
def newF (its : List Str) (r : Str) (by_ : Int) : FW := ⟨"new", 0, its, r, 0, by_⟩
/-! ### sums -/
theorem sumR_tot (l : List Int) (p : Nat → Bool) : KF.tot l p = (masked p l).sum := by
  refine snoc_ind (P := fun l => KF.tot l p = (masked p l).sum) rfl (fun l x ih => ?_) l
  rw [masked_snoc, List.sum_append, ← ih]
  unfold KF.tot
  rw [List.length_append, List.length_singleton]
  have e1 : KF.sumR l.length (fun u => if p u = true then (l ++ [x]).getD u 0 else 0) = KF.sumR l.length (fun u => if p u = true then l.getD u 0 else 0) := KF.sumR_congr fun i hi => by
    rw [List.getD_eq_getElem?_getD, List.getD_eq_getElem?_getD, List.getElem?_append_left hi]
  show KF.sumR l.length _ + _ = _
  rw [e1]
  congr 1
  show (if p l.length = true then (l ++ [x]).getD l.length 0 else 0) = _
  rw [List.getD_eq_getElem?_getD, List.getElem?_append_right (Nat.le_refl _), Nat.sub_self]
  by_cases h : p l.length = true
  · rw [if_pos h, if_pos h]
    simp
  · rw [if_neg h, if_neg h]
    rfl
theorem masked_map {α β : Type} (f : α → β) (p : Nat → Bool) (l : List α) : masked p (l.map f) = (masked p l).map f := by
  refine snoc_ind (P := fun l => masked p (l.map f) = (masked p l).map f) rfl (fun l x ih => ?_) l
  rw [List.map_append, List.map_cons, List.map_nil, masked_snoc, masked_snoc, ih, List.map_append, List.length_map]
  congr 1
  split <;> rfl
theorem tot_needs (ws : List FW) (p : Nat → Bool) : KF.tot (needsOf ws) p = ((masked p ws).map FW.cnt).sum := by
  rw [sumR_tot]
  unfold needsOf
  rw [masked_map]
theorem filter_masked {α : Type} (q : α → Bool) (l : List α) : l.filter q = masked (fun i => (l[i]?.map q).getD false) l := by
  have key : ∀ (p : Nat → Bool), (∀ (i : Nat) (x : α), l[i]? = some x → p i = q x) → masked p l = l.filter q := by
    refine snoc_ind (P := fun l => ∀ (p : Nat → Bool), (∀ (i : Nat) (x : α), l[i]? = some x → p i = q x) → masked p l = l.filter q) (fun _ _ => rfl) (fun l x ih p hp => ?_) l
    rw [masked_snoc, List.filter_append, ih p fun i y hy => hp i y (by rw [List.getElem?_append_left (List.getElem?_eq_some_iff.mp hy).1]; exact hy)]
    congr 1
    have e := hp l.length x (by rw [List.getElem?_append_right (Nat.le_refl _), Nat.sub_self]; rfl)
    rw [e]
    by_cases h : q x = true
    · rw [if_pos h, List.filter_cons, if_pos h]
      rfl
    · rw [if_neg h, List.filter_cons, if_neg h]
      rfl
  symm
  refine key _ fun i x hx => ?_
  show (l[i]?.map q).getD false = q x
  rw [hx]
  rfl
theorem ables_getD (c : Cat) (ws : List FW) {u : Nat} {f : FW} (h : ws[u]? = some f) : (ablesOf c ws).getD u [] = servers c f.its f.r f.by_ := by
  unfold ablesOf
  rw [List.getD_eq_getElem?_getD, List.getElem?_map, h]
  rfl
theorem mem_servers {c : Cat} {its : List Str} {r : Str} {b : Int} {s : Nat} : s ∈ servers c its r b ↔ ∃ x, c.sups[s]? = some x ∧ serves c x its r b = true := by
  unfold servers
  rw [List.mem_filter, List.mem_range]
  constructor
  · rintro ⟨h1, h2⟩
    rw [List.getElem?_eq_getElem h1] at h2
    exact ⟨_, List.getElem?_eq_getElem h1, h2⟩
  · rintro ⟨x, h1, h2⟩
    refine ⟨(List.getElem?_eq_some_iff.mp h1).1, ?_⟩
    rw [h1]
    exact h2
theorem near_fits (c : Cat) (ws : List FW) (p : Nat → Bool) {s : Nat} {x : Sup} (h : c.sups[s]? = some x) : KF.near (ablesOf c ws) p s = fitsAny c (masked p ws) x := by
  have hl : (ablesOf c ws).length = ws.length := List.length_map ..
  rw [Bool.eq_iff_iff, KF.near_iff]
  unfold fitsAny
  rw [List.any_eq_true]
  constructor
  · rintro ⟨u, hu, hp, hs⟩
    rw [hl] at hu
    have hf : ws[u]? = some ws[u] := List.getElem?_eq_getElem hu
    rw [ables_getD c ws hf, mem_servers] at hs
    obtain ⟨y, hy, hsv⟩ := hs
    rw [h] at hy
    cases hy
    exact ⟨ws[u], mem_masked.mpr ⟨u, hp, hf⟩, hsv⟩
  · rintro ⟨f, hf, hsv⟩
    obtain ⟨u, hp, hu⟩ := mem_masked.mp hf
    refine ⟨u, by rw [hl]; exact (List.getElem?_eq_some_iff.mp hu).1, hp, ?_⟩
    rw [ables_getD c ws hu, mem_servers]
    exact ⟨x, h, hsv⟩
theorem cap_fits (c : Cat) (ws : List FW) (p : Nat → Bool) : KF.cap (roomsOf c) (ablesOf c ws) p = ((c.sups.filter (fitsAny c (masked p ws))).map Sup.cnt).sum := by
  have e : KF.cap (roomsOf c) (ablesOf c ws) p = KF.tot (roomsOf c) (fun s => KF.near (ablesOf c ws) p s) := rfl
  rw [e, sumR_tot]
  unfold roomsOf
  rw [masked_map, filter_masked]
  congr 2
  refine masked_congr fun i hi => ?_
  have hx : c.sups[i]? = some c.sups[i] := List.getElem?_eq_getElem hi
  rw [near_fits c ws p hx, hx]
  rfl
theorem over_mask (c : Cat) (ws : List FW) (p : Nat → Bool) : over c (masked p ws) = KF.tot (needsOf ws) p - KF.cap (roomsOf c) (ablesOf c ws) p := by
  rw [tot_needs, cap_fits]
  rfl
/-- all can be served exactly if no lot needs more than its supplies have -/
theorem feas_iff (c : Cat) (ws : List FW) : KF.Feas (roomsOf c) (ablesOf c ws) (needsOf ws) ↔ ableB c ws = true := by
  unfold ableB
  rw [List.all_eq_true]
  constructor
  · intro F lot hl
    obtain ⟨p, rfl⟩ := (mem_lots ws lot).mp hl
    have q := F p
    rw [decide_eq_true_eq, over_mask]
    omega
  · intro h p
    have q := of_decide_eq_true (h _ ((mem_lots ws _).mpr ⟨p, rfl⟩))
    rw [over_mask] at q
    omega
end KS
set_option Elab.async false
set_option linter.all false
set_option maxRecDepth 100000
set_option maxHeartbeats 4000000
/-! How much more could be promised. -/
namespace KS
open PySem PySem.Spec PyProof.Rows L2
def lefts (c : Cat) (ws : List FW) (its : List Str) (r : Str) (b : Int) : List Int := (lots ws).map fun lot => 0 - over c (lot ++ [newF its r b])
def minStep (m : Option Int) (z : Int) : Option Int := match m with
  | none => some z
  | some y => some (if z < y then z else y)
def more (c : Cat) (ws : List FW) (its : List Str) (r : Str) (b : Int) : Option Int := (lefts c ws its r b).foldl minStep none
def moreV (c : Cat) (ws : List FW) (its : List Str) (r : Str) (b : Int) : Int := (more c ws its r b).getD 0
theorem min_some : ∀ {l : List Int} {y k : Int}, k ≤ y → (∀ z ∈ l, k ≤ z) → (k = y ∨ k ∈ l) → l.foldl minStep (some y) = some k
  | [], y, k, _, _, h => by
    rcases h with h | h
    · rw [h]
      rfl
    · cases h
  | z :: r, y, k, hy, hl, h => by
    have hz := hl z List.mem_cons_self
    have hr : ∀ x ∈ r, k ≤ x := fun x hx => hl x (List.mem_cons_of_mem _ hx)
    show r.foldl minStep (some (if z < y then z else y)) = some k
    by_cases e : z < y
    · rw [if_pos e]
      refine min_some hz hr ?_
      rcases h with h | h
      · omega
      · rcases List.mem_cons.mp h with q | q
        · exact .inl q
        · exact .inr q
    · rw [if_neg e]
      refine min_some hy hr ?_
      rcases h with h | h
      · exact .inl h
      · rcases List.mem_cons.mp h with q | q
        · exact .inl (by omega)
        · exact .inr q
theorem min_is {l : List Int} {k : Int} (hl : ∀ z ∈ l, k ≤ z) (h : k ∈ l) : l.foldl minStep none = some k := by
  cases l with
  | nil => cases h
  | cons z r =>
    show r.foldl minStep (some z) = some k
    exact min_some (hl z List.mem_cons_self) (fun x hx => hl x (List.mem_cons_of_mem _ hx)) (List.mem_cons.mp h)
theorem min_ex : ∀ {l : List Int}, l ≠ [] → ∃ k, l.foldl minStep none = some k ∧ k ∈ l ∧ ∀ z ∈ l, k ≤ z := by
  intro l
  refine snoc_ind (P := fun l => l ≠ [] → ∃ k, l.foldl minStep none = some k ∧ k ∈ l ∧ ∀ z ∈ l, k ≤ z) (fun h => absurd rfl h) (fun l x ih _ => ?_) l
  rw [List.foldl_append]
  show ∃ k, minStep (l.foldl minStep none) x = some k ∧ _
  by_cases e : l = []
  · subst e
    exact ⟨x, rfl, List.mem_singleton.mpr rfl, fun z hz => by rw [List.mem_singleton.mp hz]; exact Int.le_refl _⟩
  · obtain ⟨k, h1, h2, h3⟩ := ih e
    rw [h1]
    show ∃ k', some (if x < k then x else k) = some k' ∧ _
    by_cases q : x < k
    · rw [if_pos q]
      refine ⟨x, rfl, List.mem_append.mpr (.inr (List.mem_singleton.mpr rfl)), fun z hz => ?_⟩
      rcases List.mem_append.mp hz with y | y
      · have z1 := h3 z y
        omega
      · rw [List.mem_singleton.mp y]
        exact Int.le_refl _
    · rw [if_neg q]
      refine ⟨k, rfl, List.mem_append.mpr (.inl h2), fun z hz => ?_⟩
      rcases List.mem_append.mp hz with y | y
      · exact h3 z y
      · rw [List.mem_singleton.mp y]
        omega
theorem lots_ne {α : Type} (l : List α) : lots l ≠ [] := fun e => by
  have q := (mem_lots l _).mpr ⟨fun _ => false, rfl⟩
  rw [e] at q
  cases q
theorem lefts_ne (c : Cat) (ws : List FW) (its : List Str) (r : Str) (b : Int) : lefts c ws its r b ≠ [] := fun e => lots_ne ws (List.map_eq_nil_iff.mp e)
theorem more_ex (c : Cat) (ws : List FW) (its : List Str) (r : Str) (b : Int) : more c ws its r b = some (moreV c ws its r b) ∧ moreV c ws its r b ∈ lefts c ws its r b ∧ ∀ z ∈ lefts c ws its r b, moreV c ws its r b ≤ z := by
  obtain ⟨k, h1, h2, h3⟩ := min_ex (lefts_ne c ws its r b)
  have e : more c ws its r b = some k := h1
  have e2 : moreV c ws its r b = k := by
    unfold moreV
    rw [e]
    rfl
  rw [e2]
  exact ⟨e, h2, h3⟩
/-! ### by masks -/
theorem ables_snoc (c : Cat) (ws : List FW) (f : FW) : ablesOf c (ws ++ [f]) = ablesOf c ws ++ [servers c f.its f.r f.by_] := by
  unfold ablesOf
  rw [List.map_append]
  rfl
theorem needs_snoc (ws : List FW) (f : FW) : needsOf (ws ++ [f]) = needsOf ws ++ [f.cnt] := by
  unfold needsOf
  rw [List.map_append]
  rfl
/-- a mask with the last one in -/
def withLast (m : Nat) (p : Nat → Bool) : Nat → Bool := fun i => if i < m then p i else true
theorem masked_last {α : Type} (p : Nat → Bool) (l : List α) (x : α) : masked (withLast l.length p) (l ++ [x]) = masked p l ++ [x] := by
  rw [masked_snoc, if_pos (by unfold withLast; rw [if_neg (Nat.lt_irrefl _)])]
  congr 1
  exact masked_congr fun i hi => by
    unfold withLast
    rw [if_pos hi]
theorem tot_last (l : List Int) (x : Int) (p : Nat → Bool) : KF.tot (l ++ [x]) (withLast l.length p) = KF.tot l p + x := by
  rw [sumR_tot, masked_last, List.sum_append, ← sumR_tot]
  simp
theorem left_mask (c : Cat) (ws : List FW) (its : List Str) (r : Str) (b : Int) (p : Nat → Bool) :
    0 - over c (masked p ws ++ [newF its r b]) = KF.cap (roomsOf c) (ablesOf c ws ++ [servers c its r b]) (withLast ws.length p) - KF.tot (needsOf ws) p := by
  rw [← masked_last, over_mask, ables_snoc, needs_snoc]
  have hl : (needsOf ws).length = ws.length := List.length_map ..
  have q := tot_last (needsOf ws) 0 p
  rw [hl] at q
  show 0 - (KF.tot (needsOf ws ++ [0]) _ - KF.cap (roomsOf c) (ablesOf c ws ++ [servers c its r b]) _) = _
  rw [q]
  omega
theorem mem_lefts {c : Cat} {ws : List FW} {its : List Str} {r : Str} {b z : Int} : z ∈ lefts c ws its r b ↔ ∃ p, z = KF.cap (roomsOf c) (ablesOf c ws ++ [servers c its r b]) (withLast ws.length p) - KF.tot (needsOf ws) p := by
  unfold lefts
  rw [List.mem_map]
  constructor
  · rintro ⟨lot, hl, rfl⟩
    obtain ⟨p, rfl⟩ := (mem_lots ws lot).mp hl
    exact ⟨p, left_mask c ws its r b p⟩
  · rintro ⟨p, rfl⟩
    exact ⟨_, (mem_lots ws _).mpr ⟨p, rfl⟩, left_mask c ws its r b p⟩
theorem cap_congr {rooms : List Int} {able : List (List Nat)} {p q : Nat → Bool} (h : ∀ u, u < able.length → p u = q u) : KF.cap rooms able p = KF.cap rooms able q := by
  unfold KF.cap
  refine KF.sumR_congr fun s _ => ?_
  have e : KF.near able p s = KF.near able q s := by
    rw [Bool.eq_iff_iff, KF.near_iff, KF.near_iff]
    constructor
    · rintro ⟨u, h1, h2, h3⟩
      exact ⟨u, h1, by rw [← h u h1]; exact h2, h3⟩
    · rintro ⟨u, h1, h2, h3⟩
      exact ⟨u, h1, by rw [h u h1]; exact h2, h3⟩
  rw [e]
theorem tot_congr {l : List Int} {p q : Nat → Bool} (h : ∀ u, u < l.length → p u = q u) : KF.tot l p = KF.tot l q := by
  unfold KF.tot
  refine KF.sumR_congr fun u hu => ?_
  rw [h u hu]
section
variable {c : Cat} {ws : List FW} {its : List Str} {r : Str} {b k : Int} {rest : List Int} {g : Nat → Nat → Int}
/-- what the matching finds is what the law reckons -/
theorem more_of (G : KF.Giv (roomsOf c) (ablesOf c ws ++ [servers c its r b]) rest (needsOf ws ++ [k]) g) {p : Nat → Bool} (cl : KF.Closed (ablesOf c ws ++ [servers c its r b]) rest g p) (hp : p ws.length = true) :
    moreV c ws its r b = k ∧ 0 - over c (masked p ws ++ [newF its r b]) = k := by
  have hl : (needsOf ws).length = ws.length := List.length_map ..
  have hal : (ablesOf c ws ++ [servers c its r b]).length = ws.length + 1 := by
    rw [List.length_append, List.length_singleton]
    unfold ablesOf
    rw [List.length_map]
  have ep : ∀ u, u < ws.length + 1 → p u = withLast ws.length p u := fun u hu => by
    unfold withLast
    by_cases e : u < ws.length
    · rw [if_pos e]
    · rw [if_neg e, show u = ws.length by omega, hp]
  have t1 := G.tight cl
  have q1 := tot_last (needsOf ws) k p
  rw [hl] at q1
  have e1 : KF.cap (roomsOf c) (ablesOf c ws ++ [servers c its r b]) p = KF.cap (roomsOf c) (ablesOf c ws ++ [servers c its r b]) (withLast ws.length p) := cap_congr fun u hu => ep u (by omega)
  have e2 : KF.tot (needsOf ws ++ [k]) p = KF.tot (needsOf ws ++ [k]) (withLast ws.length p) := tot_congr fun u hu => ep u (by rw [List.length_append, hl] at hu; exact hu)
  have v : KF.cap (roomsOf c) (ablesOf c ws ++ [servers c its r b]) (withLast ws.length p) - KF.tot (needsOf ws) p = k := by omega
  refine ⟨?_, by rw [left_mask]; exact v⟩
  have m : more c ws its r b = some k := by
    refine min_is (fun z hz => ?_) (mem_lefts.mpr ⟨p, v.symm⟩)
    obtain ⟨p', rfl⟩ := mem_lefts.mp hz
    have w := G.weak (withLast ws.length p')
    have q2 := tot_last (needsOf ws) k p'
    rw [hl] at q2
    omega
  unfold moreV
  rw [m]
  rfl
/-- with what was found promised too: all can still be kept, and no more could be -/
theorem more_zero (G : KF.Giv (roomsOf c) (ablesOf c ws ++ [servers c its r b]) rest (needsOf ws ++ [k]) g) {p : Nat → Bool} (cl : KF.Closed (ablesOf c ws ++ [servers c its r b]) rest g p) (hp : p ws.length = true) (f : FW) (h1 : f.its = its) (h2 : f.r = r) (h3 : f.by_ = b) (h4 : f.cnt = k) :
    KF.Feas (roomsOf c) (ablesOf c (ws ++ [f])) (needsOf (ws ++ [f])) ∧ moreV c (ws ++ [f]) its r b = 0 := by
  have ea : ablesOf c (ws ++ [f]) = ablesOf c ws ++ [servers c its r b] := by rw [ables_snoc, h1, h2, h3]
  have en : needsOf (ws ++ [f]) = needsOf ws ++ [k] := by rw [needs_snoc, h4]
  have F : KF.Feas (roomsOf c) (ablesOf c (ws ++ [f])) (needsOf (ws ++ [f])) := by
    rw [ea, en]
    exact G.feas
  refine ⟨F, ?_⟩
  have hwl : (ws ++ [f]).length = ws.length + 1 := by rw [List.length_append]; rfl
  have hal : (ablesOf c (ws ++ [f])).length = ws.length + 1 := by rw [ablesOf, List.length_map, hwl]
  have hal2 : (ablesOf c (ws ++ [f]) ++ [servers c its r b]).length = ws.length + 2 := by rw [List.length_append, hal]; rfl
  -- one wish more never has fewer supplies
  have le : ∀ p', KF.cap (roomsOf c) (ablesOf c (ws ++ [f])) p' ≤ KF.cap (roomsOf c) (ablesOf c (ws ++ [f]) ++ [servers c its r b]) (withLast (ws ++ [f]).length p') := fun p' => by
    unfold KF.cap
    refine KF.sumR_le fun s hs => ?_
    have r0 : 0 ≤ (roomsOf c).getD s 0 := by
      have q := G.row s hs
      have q2 := G.r0 s hs
      have q3 : 0 ≤ KF.sumR (ablesOf c ws ++ [servers c its r b]).length (fun u => g s u) := KF.sumR_nonneg fun u _ => G.g0 s u
      omega
    by_cases e : KF.near (ablesOf c (ws ++ [f])) p' s = true
    · rw [if_pos e, if_pos]
      · exact Int.le_refl _
      · obtain ⟨u, hu, hpu, hm⟩ := KF.near_iff.mp e
        refine KF.near_iff.mpr ⟨u, by omega, ?_, ?_⟩
        · unfold withLast
          rw [if_pos (by omega)]
          exact hpu
        · rw [List.getD_eq_getElem?_getD, List.getElem?_append_left hu, ← List.getD_eq_getElem?_getD]
          exact hm
    · rw [if_neg e]
      split
      · exact r0
      · exact Int.le_refl _
  have m : more c (ws ++ [f]) its r b = some 0 := by
    refine min_is (fun z hz => ?_) (mem_lefts.mpr ⟨p, ?_⟩)
    · obtain ⟨p', rfl⟩ := mem_lefts.mp hz
      have q1 := F p'
      have q2 := le p'
      omega
    · have t1 := G.tight cl
      have e1 : KF.cap (roomsOf c) (ablesOf c (ws ++ [f]) ++ [servers c its r b]) (withLast (ws ++ [f]).length p) = KF.cap (roomsOf c) (ablesOf c ws ++ [servers c its r b]) p := by
        unfold KF.cap
        refine KF.sumR_congr fun s _ => ?_
        have e : KF.near (ablesOf c (ws ++ [f]) ++ [servers c its r b]) (withLast (ws ++ [f]).length p) s = KF.near (ablesOf c ws ++ [servers c its r b]) p s := by
          rw [← ea, Bool.eq_iff_iff, KF.near_iff, KF.near_iff]
          constructor
          · rintro ⟨u, hu, hpu, hm⟩
            by_cases eu : u < ws.length + 1
            · refine ⟨u, by omega, ?_, ?_⟩
              · unfold withLast at hpu
                rw [if_pos (by omega)] at hpu
                exact hpu
              · rw [List.getD_eq_getElem?_getD, List.getElem?_append_left (by omega), ← List.getD_eq_getElem?_getD] at hm
                exact hm
            · have eu2 : u = ws.length + 1 := by omega
              subst eu2
              rw [List.getD_eq_getElem?_getD, List.getElem?_append_right (by omega), hal, Nat.sub_self] at hm
              refine ⟨ws.length, by omega, hp, ?_⟩
              rw [ables_getD c (ws ++ [f]) (u := ws.length) (f := f) (by rw [List.getElem?_append_right (Nat.le_refl _), Nat.sub_self]; rfl), h1, h2, h3]
              exact hm
          · rintro ⟨u, hu, hpu, hm⟩
            refine ⟨u, by omega, ?_, ?_⟩
            · unfold withLast
              rw [if_pos (by omega)]
              exact hpu
            · rw [List.getD_eq_getElem?_getD, List.getElem?_append_left hu, ← List.getD_eq_getElem?_getD]
              exact hm
        rw [e]
      rw [e1, en]
      omega
  unfold moreV
  rw [m]
  rfl
end
/-- all can be served, with a wish for nothing too -/
theorem feas_zero {c : Cat} {ws : List FW} {its : List Str} {r : Str} {b : Int} (ok : c.Ok) (F : KF.Feas (roomsOf c) (ablesOf c ws) (needsOf ws)) : KF.Feas (roomsOf c) (ablesOf c ws ++ [servers c its r b]) (needsOf ws ++ [0]) := by
  intro p
  have q := F p
  have hl : (ablesOf c ws).length = ws.length := List.length_map ..
  have e : KF.tot (needsOf ws ++ [0]) p = KF.tot (needsOf ws) p := by
    rw [sumR_tot, sumR_tot, masked_snoc, List.sum_append]
    split <;> simp
  rw [e]
  refine Int.le_trans q ?_
  unfold KF.cap
  refine KF.sumR_le fun s hs => ?_
  have r0 : 0 ≤ (roomsOf c).getD s 0 := by
    rw [List.getD_eq_getElem?_getD, List.getElem?_eq_getElem hs]
    exact rooms_nn ok _ (List.getElem_mem hs)
  by_cases e : KF.near (ablesOf c ws) p s = true
  · rw [if_pos e, if_pos]
    · exact Int.le_refl _
    · obtain ⟨u, hu, hpu, hm⟩ := KF.near_iff.mp e
      refine KF.near_iff.mpr ⟨u, by rw [List.length_append]; omega, hpu, ?_⟩
      rw [List.getD_eq_getElem?_getD, List.getElem?_append_left hu, ← List.getD_eq_getElem?_getD]
      exact hm
  · rw [if_neg e]
    split
    · exact r0
    · exact Int.le_refl _
theorem sumR_sum (l : List Int) : KF.sumR l.length (fun u => l.getD u 0) = l.sum := by
  have e : KF.tot l (fun _ => true) = l.sum := by
    rw [sumR_tot]
    congr 1
    refine snoc_ind (P := fun l => masked (fun _ => true) l = l) rfl (fun l x ih => ?_) l
    rw [masked_snoc, ih, if_pos rfl]
  rw [← e]
  unfold KF.tot
  exact KF.sumR_congr fun u _ => (if_pos rfl).symm
/-- no wish has more than there is -/
theorem had_le {rooms : List Int} {able : List (List Nat)} {rest had : List Int} {g : Nat → Nat → Int} (G : KF.Giv rooms able rest had g) {u : Nat} (hu : u < able.length) : had.getD u 0 ≤ rooms.sum := by
  rw [G.col u hu, ← sumR_sum]
  refine KF.sumR_le fun s hs => ?_
  have q := G.row s hs
  have q2 := G.r0 s hs
  have q3 := KF.sumR_one_le (f := fun v => g s v) (n := able.length) (fun v _ => G.g0 s v) hu
  have q4 : g s u ≤ KF.sumR able.length fun v => g s v := q3
  omega
end KS
set_option Elab.async false
set_option linter.all false
set_option maxRecDepth 100000
set_option maxHeartbeats 8000000
set_option pp.maxSteps 400
/-! What a Book is in the heap; Book.__init__, orders, refusals, sends, cancel. -/
namespace KS
open PySem PySem.Spec PyProof.Rows L2
section
variable {P : Program} {w : World} {K : PySem.W.Frag} {mg : Str → Option Value} {base : Heap}
/-- a property of the class at C -/
structure OkP (P : Program) (w : World) (K : PySem.W.Frag) (mg : Str → Option Value) (base : Heap) (k : Nat) (C : Addr) (f : Str) (ps : List Str) (sp : Sp) : Prop where
  cls : Cls K C
  ex : ∃ p g fd, PropOf K C f p g ∧ FnOk P w K mg base CX0 k g fd ps sp ∧ Binds K fd ps []
theorem OkP.mk_ {m q : Str} {i : Nat} {N ps : List Str} {k : Nat} {sp : Sp} (T : Tx K mg) (hp : (m, q, i) ∈ bprops) (S : FnScope N ps (defScope (bk i))) (hb : BindsOf m q (bk i) ps) (len : ∀ vs H Q E, sp vs H Q E → vs.length = ps.length)
    (hbody : ∀ (f : Addr) (cdv : Value) (A : Around) (outer : List Env) (s : Shared) (H : Hp) (vs : List V) (Q : VK) (E : XK), Room k (A.deeper (envOfC q (defScope (bk i)) s.heap.objs.size f cdv)) → sp vs H Q E →
      ∃ t, PSs (cxOf CX0 P w K mg base N q (defScope (bk i)) f cdv A outer s H E).nox (defBody (bk i)) t ∧ t { nx := fun _ H' => Q .non H', rt := Q } (start N vs) H) : OkP P w K mg base (k + 1) (cB K) m ps sp := by
  obtain ⟨g, fd, F, hm⟩ := T.bp _ hp
  refine ⟨T.bC, _, g, fd, hm, F.ok S len fun cdv A outer s H vs Q E hr h => ?_, F.bindsN hb⟩
  obtain ⟨t, a, b⟩ := hbody _ cdv A outer s H vs Q E hr h
  exact ⟨t, a.nox, b⟩
theorem pe_prp {X : Cx} {k : Nat} {C : Addr} {ps : List Str} {sp : Sp} {E : XK} {f : Str} {e : Expr} {pos : Pos} {ta : TE} (D : OkP X.prog X.w X.K X.mg X.base k C f ps sp) (hr : Room (k + 1) X.A) (hx : Passes CX0 X.nox E) (he : PE X e ta) (hab : attributeBase e f X.env (eval e X.env) = eval e X.env := by rfl) :
    PE X (.Attribute e f pos) (tProp C sp [] E ta) := by
  obtain ⟨p, g, fd, hp, F, hb⟩ := D.ex
  exact pe_prop he D.cls hp F hr hb .nil hx hab
/-- Book's attributes -/
def bfs (vc lp lr : V) : List (Str × V) := putF "refused" lr (putF "promised" lp (putF "catalog" vc []))
theorem bfs_cat {vc lp lr : V} : (bfs vc lp lr).lookup ("catalog" : Str) = some vc := by
  unfold bfs
  rw [lookup_putF, if_neg (by decide +kernel), lookup_putF, if_neg (by decide +kernel), lookup_putF, if_pos rfl]
theorem bfs_pro {vc lp lr : V} : (bfs vc lp lr).lookup ("promised" : Str) = some lp := by
  unfold bfs
  rw [lookup_putF, if_neg (by decide +kernel), lookup_putF, if_pos rfl]
theorem bfs_ref {vc lp lr : V} : (bfs vc lp lr).lookup ("refused" : Str) = some lr := by
  unfold bfs
  rw [lookup_putF, if_pos rfl]
theorem bfs_no {vc lp lr : V} {m : Str} (h : m ∉ battrs) : (bfs vc lp lr).lookup m = none := by
  have e : ∀ x ∈ battrs, ¬ m = x := fun x hx q => h (q ▸ hx)
  unfold bfs
  rw [lookup_putF, if_neg (e _ (by decide +kernel)), lookup_putF, if_neg (e _ (by decide +kernel)), lookup_putF, if_neg (e _ (by decide +kernel))]
  rfl
theorem putF_cons {f g : Str} {v u : V} {r : List (Str × V)} : putF f v ((g, u) :: r) = if g = f then (g, v) :: r else (g, u) :: putF f v r := rfl
theorem bfs_eq {vc lp lr : V} : bfs vc lp lr = ([(("catalog" : Str), vc), (("promised" : Str), lp), (("refused" : Str), lr)] : List (Str × V)) := by
  have n1 : ¬ ("catalog" : Str) = "promised" := by decide +kernel
  have n2 : ¬ ("catalog" : Str) = "refused" := by decide +kernel
  have n3 : ¬ ("promised" : Str) = "refused" := by decide +kernel
  unfold bfs
  show putF "refused" lr (putF "promised" lp [(("catalog" : Str), vc)]) = _
  rw [putF_cons, if_neg n1]
  show putF "refused" lr ((("catalog" : Str), vc) :: [(("promised" : Str), lp)]) = _
  rw [putF_cons, if_neg n2, putF_cons, if_neg n3]
  rfl
theorem bfs_put {vc lp lr l' : V} : putF "promised" l' (bfs vc lp lr) = bfs vc l' lr := by
  have n1 : ¬ ("catalog" : Str) = "promised" := by decide +kernel
  rw [bfs_eq, bfs_eq, putF_cons, if_neg n1, putF_cons, if_pos rfl]
/-- a pair (order, told why) -/
def Refu (K : PySem.W.Frag) (H : Hp) (z : V) : Prop := ∃ (t t2 : Addr) (v v2 : V), z = .ref t ∧ SqT K H t [v, .ref t2] ∧ SqT K H t2 [.str "cut", v2]
theorem Refu.keep {H H' : Hp} {z : V} (h : Refu K H z) (ht : ∀ a xs, SqT K H a xs → SqT K H' a xs) : Refu K H' z := by
  obtain ⟨t, t2, v, v2, e, h1, h2⟩ := h
  exact ⟨t, t2, v, v2, e, ht _ _ h1, ht _ _ h2⟩
theorem Wish.nl (x : Wish) : nl x.d = true := by
  show (KS.nl (strsD x.its) && (true && true)) = true
  rw [nl_strs]
  rfl
theorem Order.nl (o : Order) : nl o.d = true := by
  show (true && (true && (nlAll (o.ws.map Wish.d) && (true && (true && true))))) = true
  rw [nlAll_map _ _ fun x _ => Wish.nl x]
  rfl
theorem Cat.nl (c : Cat) : nl c.d = true := by
  show (KS.nl (strsD c.hs) && (KS.nl (strsD c.rs) && (KS.nl (strsD c.its) && (nlAll (c.lanes.map Lane.d) && (nlAll (c.sups.map Sup.d) && true))))) = true
  rw [nl_strs, nl_strs, nl_strs, nlAll_map _ _ fun _ _ => rfl, nlAll_map _ _ fun _ _ => rfl]
  rfl
/-- a Book at x behind the heap H0: what it holds is not in H0 -/
structure BAt (K : PySem.W.Frag) (H0 H : Hp) (x : Addr) (c : Cat) (os : List Order) (n : Nat) : Prop where
  same : Same H0 H
  ex : ∃ (dx lp lr : Addr) (vc : V) (ys zs : List V), H x = some (.ins (cB K) dx (bfs vc (.ref lp) (.ref lr))) ∧ H lp = some (.lst ys) ∧ H lr = some (.lst zs) ∧ lp ≠ lr ∧ H0 x = none ∧ H0 lp = none ∧ H0 lr = none ∧ Dp K H vc c.d ∧ DpAll K H ys (os.map Order.d) ∧
    zs.length = n ∧ ∀ z ∈ zs, Refu K H z
theorem BAt.more {H0 H H' : Hp} {x : Addr} {c : Cat} {os : List Order} {n : Nat} (h : BAt K H0 H x c os n) (e : Same H H') : BAt K H0 H' x c os n := by
  obtain ⟨dx, lp, lr, vc, ys, zs, h1, h2, h3, h4, h5, h6, h7, h8, h9, h10, h11⟩ := h.ex
  exact ⟨h.same.trans e, dx, lp, lr, vc, ys, zs, e _ _ h1, e _ _ h2, e _ _ h3, h4, h5, h6, h7, h8.same e, h9.same e, h10, fun z hz => (h11 z hz).keep fun _ _ q => same_t e q⟩
/-! ### __init__ -/
def spBinit (K : PySem.W.Frag) : Sp := fun vs H Q _ => ∃ (H0 : Hp) (x dx : Addr) (vc : V) (c : Cat), vs = [.ref x, vc] ∧ Same H0 H ∧ H0 x = none ∧ H x = some (.ins (cB K) dx []) ∧ Dp K H0 vc c.d ∧ c.Ok ∧ ∀ H', BAt K H0 H' x c [] 0 → Q .non H'
theorem sc_binit : FnScope ["self", "catalog"] ["self", "catalog"] (defScope (bk 0)) := ⟨rfl, rfl, rfl, by decide +kernel, rfl, by decide +kernel, by decide +kernel⟩
theorem ok_binit (T : Tx K mg) (d_need_catalog : Ok P w K mg base CX0 4 "need_catalog" ["catalog"] (spNeedCat K)) : OkM P w K mg base CX0 5 (cB K) "__init__" ["self", "catalog"] (spBinit K) := by
  have sc := sc_binit
  refine OkM.mk_B (q := "Book.__init__") (i := 0) T (by decide +kernel) sc (fun _ _ _ _ _ _ us hl => match us, hl with | [_, _], _ => rfl) (fun vs H Q E h => ?_) (fun f cdv A outer s H vs Q E hr h => ?_)
  · obtain ⟨H0, x, dx, vc, c, rfl, _⟩ := h
    rfl
  · obtain ⟨H0, x, dx, vc, c, rfl, sm, x0, hx, hc, ok, k⟩ := h
    refine ⟨_, pss_cons (ps_expr (pe_fn d_need_catalog (hr.mono (by decide)) pass0 (pa_cons (pv 1) pa_nil)))
      (pss_cons (ps_fld (pv 0) (pv 1) rfl)
      (pss_cons (ps_fld (pv 0) (pe_lst pa_nil) rfl)
      (pss_one (ps_fld (pv 0) (pe_lst pa_nil) rfl)))), ?_⟩
    refine ⟨_, rfl, vc, c, rfl, hc.same sm, ok, fun H1 s1 => ?_⟩
    refine ⟨_, rfl, _, rfl, x, cB K, dx, _, rfl, s1 _ _ hx, T.bC, T.bN _ (by decide +kernel), (by show 0 < 1000; decide), ?_⟩
    refine ⟨by show 0 ≤ sizeLine; decide, fun lp hlp => ?_⟩
    have xlp : x ≠ lp := ne_of_none upd_same hlp
    refine ⟨_, rfl, x, cB K, dx, _, rfl, by rw [upd_ne xlp]; exact upd_same, T.bC, T.bN _ (by decide +kernel), (by show 1 < 1000; decide), ?_⟩
    refine ⟨by show 0 ≤ sizeLine; decide, fun lr hlr => ?_⟩
    have xlr : x ≠ lr := ne_of_none upd_same hlr
    have lplr : lp ≠ lr := ne_of_none (by rw [upd_ne xlp.symm]; exact upd_same) hlr
    refine ⟨_, rfl, x, cB K, dx, _, rfl, by rw [upd_ne xlr]; exact upd_same, T.bC, T.bN _ (by decide +kernel), (by show 2 < 1000; decide), ?_⟩
    have sa : Same H0 (upd H1 x (.ins (cB K) dx (putF "catalog" vc []))) := same_mut (sm.trans s1) x0
    have lp0 : H0 lp = none := Same.free sa hlp
    have sb : Same H0 (upd (upd (upd H1 x (.ins (cB K) dx (putF "catalog" vc []))) lp (.lst [])) x (.ins (cB K) dx (putF "promised" (.ref lp) (putF "catalog" vc [])))) := same_mut (same_mut sa lp0) x0
    have lr0 : H0 lr = none := Same.free sb hlr
    have sd := same_mut (o := .ins (cB K) dx (bfs vc (.ref lp) (.ref lr))) (same_mut (o := .lst []) sb lr0) x0
    refine k _ ⟨sd, dx, lp, lr, vc, [], [], upd_same, ?_, ?_, lplr, x0, lp0, lr0, hc.same sd, .nil, rfl, fun z hz => by cases hz⟩
    · rw [upd_ne xlp.symm, upd_ne lplr, upd_ne xlp.symm, upd_same]
    · rw [upd_ne xlr.symm, upd_same]
/-! ### orders, refusals -/
def spOrders (K : PySem.W.Frag) : Sp := fun vs H Q _ => ∃ (H0 : Hp) (x : Addr) (c : Cat) (os : List Order) (n : Nat), vs = [.ref x] ∧ BAt K H0 H x c os n ∧ ∀ (v : V) (H' : Hp), Same H H' → Dp K H' v (.tuple (os.map Order.d)) → Q v H'
theorem sc_orders : FnScope ["self"] ["self"] (defScope (bk 1)) := ⟨rfl, rfl, rfl, by decide +kernel, rfl, by decide +kernel, by decide +kernel⟩
theorem ok_orders (T : Tx K mg) : OkP P w K mg base 1 (cB K) "orders" ["self"] (spOrders K) := by
  have sc := sc_orders
  refine OkP.mk_ (q := "Book.orders") (i := 1) T (by decide +kernel) sc (fun _ _ _ _ _ _ us hl => match us, hl with | [_], _ => rfl) (fun vs H Q E h => ?_) (fun f cdv A outer s H vs Q E hr h => ?_)
  · obtain ⟨H0, x, c, os, n, rfl, _⟩ := h
    rfl
  · obtain ⟨H0, x, c, os, n, rfl, B, k⟩ := h
    obtain ⟨dx, lp, lr, vc, ys, zs, hx, hlp, hlr, nlr, x0, lp0, lr0, hc, hy, hz, hzr⟩ := B.ex
    refine ⟨_, pss_one (ps_ret (pe_callTy (k_tuple (K := K) rfl) (by rfl) (T.free _ (by decide +kernel)) (by decide +kernel) (pa_cons (k_pe_fld (K := K) rfl (pv 0) rfl) pa_nil))), ?_⟩
    refine ⟨_, rfl, x, _, dx, _, _, rfl, hx, T.bC, T.bN _ (by decide +kernel), bfs_pro, lp, _, rfl, .inl ⟨SqL.of hlp, fun t ht => ?_⟩⟩
    exact k _ _ (same_new ht) (.tup (SqT.of upd_same) (hy.same (same_new ht)))
def spRefusals (K : PySem.W.Frag) : Sp := fun vs H Q _ => ∃ (H0 : Hp) (x : Addr) (c : Cat) (os : List Order) (n : Nat), vs = [.ref x] ∧ BAt K H0 H x c os n ∧ ∀ (p : Addr) (zs : List V) (H' : Hp), Same H H' → H' p = some (.lst zs) → zs.length = n → (∀ z ∈ zs, Refu K H' z) → Q (.ref p) H'
theorem sc_refusals : FnScope ["self"] ["self"] (defScope (bk 2)) := ⟨rfl, rfl, rfl, by decide +kernel, rfl, by decide +kernel, by decide +kernel⟩
theorem ok_refusals (T : Tx K mg) : OkP P w K mg base 1 (cB K) "refusals" ["self"] (spRefusals K) := by
  have sc := sc_refusals
  refine OkP.mk_ (q := "Book.refusals") (i := 2) T (by decide +kernel) sc (fun _ _ _ _ _ _ us hl => match us, hl with | [_], _ => rfl) (fun vs H Q E h => ?_) (fun f cdv A outer s H vs Q E hr h => ?_)
  · obtain ⟨H0, x, c, os, n, rfl, _⟩ := h
    rfl
  · obtain ⟨H0, x, c, os, n, rfl, B, k⟩ := h
    obtain ⟨dx, lp, lr, vc, ys, zs, hx, hlp, hlr, nlr, x0, lp0, lr0, hc, hy, hz, hzr⟩ := B.ex
    refine ⟨_, pss_one (ps_ret (pe_callTy (k_list (K := K) rfl) (by rfl) (T.free _ (by decide +kernel)) (by decide +kernel) (pa_cons (k_pe_fld (K := K) rfl (pv 0) rfl) pa_nil))), ?_⟩
    refine ⟨_, rfl, x, _, dx, _, _, rfl, hx, T.bC, T.bN _ (by decide +kernel), bfs_ref, lr, _, rfl, .inl (SqL.of hlr), fun t ht => ?_⟩
    exact k _ _ _ (same_new ht) upd_same hz fun z hz => (hzr z hz).keep fun _ _ q => same_t (same_new ht) q
/-! ### sends -/
def spSends (K : PySem.W.Frag) : Sp := fun vs H Q _ => ∃ (H0 : Hp) (x : Addr) (c : Cat) (os : List Order) (n : Nat), vs = [.ref x] ∧ BAt K H0 H x c os n ∧ c.Ok ∧ os.length ≤ 12 ∧ (∀ o ∈ os, o.Ok c) ∧ KF.Feas (roomsOf c) (ablesOf c (wishesOf os)) (needsOf (wishesOf os)) ∧
  ∀ (v : V) (H' : Hp) (rest : List Int) (g : Nat → Nat → Int), KF.Giv (roomsOf c) (ablesOf c (wishesOf os)) rest (needsOf (wishesOf os)) g → Same H H' → Dp K H' v (.tuple ((sendsOf c (wishesOf os) g).map Send.d)) → Q v H'
theorem sc_sends : FnScope ["self"] ["self"] (defScope (bk 3)) := ⟨rfl, rfl, rfl, by decide +kernel, rfl, by decide +kernel, by decide +kernel⟩
theorem ok_sends (T : Tx K mg) (d_kept : Ok P w K mg base CX0 5 "kept" ["catalog", "orders"] (spKept K)) : OkM P w K mg base CX0 6 (cB K) "sends" ["self"] (spSends K) := by
  have sc := sc_sends
  refine OkM.mk_B (q := "Book.sends") (i := 3) T (by decide +kernel) sc (fun _ _ _ _ _ _ us hl => match us, hl with | [_], _ => rfl) (fun vs H Q E h => ?_) (fun f cdv A outer s H vs Q E hr h => ?_)
  · obtain ⟨H0, x, c, os, n, rfl, _⟩ := h
    rfl
  · obtain ⟨H0, x, c, os, n, rfl, B, ok, hlen, hos, F, k⟩ := h
    obtain ⟨dx, lp, lr, vc, ys, zs, hx, hlp, hlr, nlr, x0, lp0, lr0, hc, hy, hz, hzr⟩ := B.ex
    refine ⟨_, pss_one (ps_ret (pe_ix (k_ix_tup (K := K) rfl) (pe_fn d_kept (hr.mono (by decide)) pass0 (pa_cons (k_pe_fld (K := K) rfl (pv 0) rfl) (pa_cons (k_pe_fld (K := K) rfl (pv 0) rfl) pa_nil))) (pe_int) (fun _ _ => rfl))), ?_⟩
    refine ⟨_, rfl, x, _, dx, _, _, rfl, hx, T.bC, T.bN _ (by decide +kernel), bfs_cat, _, rfl, x, _, dx, _, _, rfl, hx, T.bC, T.bN _ (by decide +kernel), bfs_pro, vc, lp, ys, c, os, rfl, hc, ok, SqL.of hlp, hy, by omega, hos, fun t v H1 rest g G s1 ht hv => ?_, fun t v H1 hnf => absurd F hnf⟩
    exact ⟨t, _, _, v, rfl, rfl, SqT.of ht, rfl, k v H1 rest g G s1 hv⟩
/-! ### cancel -/
def spCancel (K : PySem.W.Frag) : Sp := fun vs H Q E => ∃ (H0 : Hp) (x : Addr) (c : Cat) (os : List Order) (n : Nat) (s : Str), vs = [.ref x, .str s] ∧ BAt K H0 H x c os n ∧ os.length ≤ 12 ∧
  (s ∉ os.map Order.n → ∀ H', Same H H' → E (.ref (He.ga K "BadName")) none H') ∧ (s ∈ os.map Order.n → ∀ H', BAt K H0 H' x c (os.filter fun o => decide (o.n ≠ s)) n → Q .non H')
theorem sc_cancel : FnScope ["self", "name", "one"] ["self", "name"] (defScope (bk 5)) := ⟨rfl, rfl, rfl, by decide +kernel, rfl, by decide +kernel, by decide +kernel⟩
theorem filter_dp {H : Hp} (q : Order → Bool) : ∀ {ys : List V} {os : List Order}, DpAll K H ys (os.map Order.d) → DpAll K H ((List.range ys.length).filterMap fun i => (os[i]?).bind fun o => if q o = true then ys[i]? else none) ((os.filter q).map Order.d)
  | [], [], _ => .nil
  | [], _ :: _, h => by cases h
  | _ :: _, [], h => by cases h
  | y :: ys, o :: os, h => by
    cases h with
    | cons h1 h2 =>
      have ih := filter_dp q h2
      rw [List.length_cons, List.range_succ_eq_map, List.filterMap_cons, List.filterMap_map]
      have e : ((fun i : Nat => ((o :: os)[i]?).bind fun o' => if q o' = true then (y :: ys)[i]? else none) ∘ Nat.succ) = fun i => (os[i]?).bind fun o' => if q o' = true then ys[i]? else none := rfl
      rw [e]
      by_cases hq : q o = true
      · have e0 : ((o :: os)[0]?).bind (fun o' => if q o' = true then (y :: ys)[0]? else none) = some y := by
          show (if q o = true then some y else none) = some y
          rw [if_pos hq]
        rw [e0, List.filter_cons, if_pos hq, List.map_cons]
        exact .cons h1 ih
      · have e0 : ((o :: os)[0]?).bind (fun o' => if q o' = true then (y :: ys)[0]? else none) = none := by
          show (if q o = true then some y else none) = none
          rw [if_neg hq]
        rw [e0, List.filter_cons, if_neg hq]
        exact ih
theorem ok_cancel (T : Tx K mg) : OkM P w K mg base (L2.CX P w) 1 (cB K) "cancel" ["self", "name"] (spCancel K) := by
  have sc := sc_cancel
  refine OkM.mkXB (q := "Book.cancel") (i := 5) T (by decide +kernel) sc (fun _ _ _ _ _ _ us hl => match us, hl with | [_, _], _ => rfl) (fun vs H Q E h => ?_) (fun f cdv A outer s H vs Q E hr h => ?_)
  · obtain ⟨H0, x, c, os, n, s, rfl, _⟩ := h
    rfl
  · obtain ⟨H0, x, c, os, n, s, rfl, B, hlen, kE, kQ⟩ := h
    obtain ⟨dx, lp, lr, vc, ys, zs, hx, hlp, hlr, nlr, x0, lp0, lr0, hc, hy, hz, hzr⟩ := B.ex
    have hl := hy.length
    rw [List.length_map] at hl
    refine ⟨_, pss_cons (ps_if (pt_cmpR (k_op_notIn_seq (K := K) rfl) (pv 1) (pe_lc (own := [("one", 2)]) rfl sc.nd (pi_list (k_pe_fld (K := K) rfl (pv 0) rfl)) (blkOk_by (own := [("one", 2)]) (N := ["self", "name", "one"]) (sc := defScope (bk 5)) (by decide +kernel)) (fun _ _ _ _ _ => pg_name (i := 2) sc.nd rfl (Or.inl rfl)) (fun _ _ _ _ _ => pts_nil) (fun _ _ _ _ _ => pe_ix (k_ix_tup (K := K) rfl) (pv 2) (pe_int) (fun _ _ => rfl))) (by rfl))
        (pss_one (ps_raise rfl (takes_of rfl rfl rfl rfl) (pmk_x T (x := "BadName") (by decide +kernel))))
        (pss_nil))
      (pss_one (ps_fld (pv 0) (pe_lc (own := [("one", 2)]) rfl sc.nd (pi_list (k_pe_fld (K := K) rfl (pv 0) rfl)) (blkOk_by (own := [("one", 2)]) (N := ["self", "name", "one"]) (sc := defScope (bk 5)) (by decide +kernel)) (fun _ _ _ _ _ => pg_name (i := 2) sc.nd rfl (Or.inl rfl)) (fun _ _ _ _ _ => pts_one (pt_cmpR op_ne (pe_ix (k_ix_tup (K := K) rfl) (pv 2) (pe_int) (fun _ _ => rfl)) (pv 1) (nomark _))) (fun _ _ _ _ _ => pv 2)) rfl)), ?_⟩
    refine ⟨_, rfl, _, rfl, x, _, dx, _, _, rfl, hx, T.bC, T.bN _ (by decide +kernel), bfs_pro, lp, rfl, ⟨_, SqL.of hlp⟩, ?_⟩
    refine lc_gen (walk_list (xs := ys)) (fun i => os[i]?.map fun o => .str o.n) (by omega) (fun H1 s1 => SqL.of (s1 _ _ hlp)) (fun i y H1 H2 Rn Ry hi s1 hY hn hy' => ?_) (fun D H1 hD s1 h1 => ?_)
    · obtain ⟨rfl, hx1⟩ := hY
      obtain ⟨d, hd1, hd2⟩ := hy.get' hx1
      rw [List.getElem?_map] at hd1
      obtain ⟨o, ho, rfl⟩ := Option.map_eq_some_iff.mp hd1
      obtain ⟨b, aw, rfl, hb, _⟩ := order_at (hd2.same s1)
      exact ⟨rfl, _, rfl, b, _, _, _, rfl, rfl, hb, rfl, hy' _ (by rw [ho]; rfl) _ (Same.refl _)⟩
    have e1 : (List.range ys.length).filterMap (fun i => os[i]?.map fun o => V.str o.n) = (os.map Order.n).map V.str := by
      rw [hl, fm_get_map, List.map_map]
      rfl
    rw [e1] at h1
    refine ⟨D, _, rfl, .inl (SqL.of h1), rfl, flat_strs _, _, rfl, ?_⟩
    by_cases hs : s ∈ os.map Order.n
    · refine iteEf (ni_str hs) ?_
      refine ⟨_, rfl, x, _, dx, _, _, rfl, s1 _ _ hx, T.bC, T.bN _ (by decide +kernel), bfs_pro, lp, rfl, ⟨_, SqL.of (s1 _ _ hlp)⟩, ?_⟩
      refine lc_gen (walk_list (xs := ys)) (fun i => (os[i]?).bind fun o => if decide (o.n ≠ s) = true then ys[i]? else none) (by omega) (fun H2 s2 => SqL.of (s2 _ _ (s1 _ _ hlp))) (fun i y H2 H3 Rn Ry hi s2 hY hn hy' => ?_) (fun D2 H2 hD2 s2 h2 => ?_)
      · obtain ⟨rfl, hx1⟩ := hY
        have s12 := s1.trans s2
        obtain ⟨d, hd1, hd2⟩ := hy.get' hx1
        rw [List.getElem?_map] at hd1
        obtain ⟨o, ho, rfl⟩ := Option.map_eq_some_iff.mp hd1
        obtain ⟨b, aw, rfl, hb, _⟩ := order_at (hd2.same s12)
        rw [ho] at hn hy'
        refine ⟨rfl, _, rfl, b, _, _, _, rfl, rfl, hb, rfl, _, rfl, rfl, _, rfl, ?_⟩
        by_cases e : o.n = s
        · refine iteEf (by rw [decide_eq_true (by rw [e])]; rfl) (hn ?_ _ (Same.refl _))
          show (if decide (o.n ≠ s) = true then ys[i]? else none) = none
          rw [if_neg (by rw [decide_eq_false (fun q => q e)]; exact Bool.false_ne_true)]
        · refine iteE (by rw [decide_eq_false (fun q => e (V.str.inj q))]; rfl) ⟨_, rfl, hy' _ ?_ _ (Same.refl _)⟩
          show (if decide (o.n ≠ s) = true then ys[i]? else none) = _
          rw [if_pos (decide_eq_true e)]
          exact hx1
      have s12 := s1.trans s2
      have xD2 : x ≠ D2 := ne_of_none (s1 _ _ hx) hD2
      have lrD2 : lr ≠ D2 := ne_of_none (s1 _ _ hlr) hD2
      have xlr : lr ≠ x := ne_of hlr hx (by intro q; cases q)
      refine ⟨_, rfl, x, cB K, dx, _, rfl, s12 _ _ hx, T.bC, T.bN _ (by decide +kernel), (by rw [bfs_eq]; show 3 < 1000; decide), ?_⟩
      rw [bfs_put]
      have ht : ∀ a xs, SqT K H2 a xs → SqT K (upd H2 x (.ins (cB K) dx (bfs vc (.ref D2) (.ref lr)))) a xs := fun a xs h => t_upd (s12 _ _ hx) (fun _ q => by cases q) (fun _ _ q => by cases q) h
      refine kQ hs _ ⟨same_mut (B.same.trans s12) x0, dx, D2, lr, vc, _, zs, upd_same, by rw [upd_ne xD2.symm]; exact h2, by rw [upd_ne xlr]; exact s12 _ _ hlr, lrD2.symm, x0, Same.free (B.same.trans s1) hD2, lr0, dp_keep ht (Cat.nl c) (hc.same s12),
        dpAll_keep ht (nlAll_map _ _ fun o _ => Order.nl o) (filter_dp _ (hy.same s12)), hz, fun z hz' => ((hzr z hz').keep fun _ _ q => same_t s12 q).keep ht⟩
    · exact iteE (ni_str' hs) (kE hs _ s1)
end
end KS
set_option Elab.async false
set_option linter.all false
set_option maxRecDepth 100000
set_option maxHeartbeats 8000000
set_option pp.maxSteps 400
/-! Book.ask. -/
namespace KS
open PySem PySem.Spec PyProof.Rows L2
section
variable {P : Program} {w : World} {K : PySem.W.Frag} {mg : Str → Option Value} {base : Heap}
/-- can all these orders be kept? -/
def FeasO (c : Cat) (os : List Order) : Prop := KF.Feas (roomsOf c) (ablesOf c (wishesOf os)) (needsOf (wishesOf os))
def spAsk (K : PySem.W.Frag) : Sp := fun vs H Q E => ∃ (H0 : Hp) (x : Addr) (v : V) (c : Cat) (os : List Order) (n : Nat), vs = [.ref x, v] ∧ BAt K H0 H x c os n ∧ c.Ok ∧ os.length ≤ 11 ∧ n ≤ 100 ∧ (∀ o ∈ os, o.Ok c) ∧
  ((∃ i, v = .int i ∧ ∀ H', Same H H' → E (.ref (He.ga K "BadOrder")) none H') ∨
   (∃ o : Order, Dp K H v o.d ∧ o.Ok c ∧ o.n ∈ os.map Order.n ∧ ∀ H', Same H H' → E (.ref (He.ga K "BadName")) none H') ∨
   (∃ o : Order, Dp K H v o.d ∧ o.Ok c ∧ o.n ∉ os.map Order.n ∧ (FeasO c (os ++ [o]) → ∀ H', BAt K H0 H' x c (os ++ [o]) n → Q (.bl true) H') ∧ (¬ FeasO c (os ++ [o]) → ∀ H', BAt K H0 H' x c os (n + 1) → Q (.bl false) H')))
theorem sc_ask : FnScope ["self", "order", "told", "one"] ["self", "order"] (defScope (bk 4)) := ⟨rfl, rfl, rfl, by decide +kernel, rfl, by decide +kernel, by decide +kernel⟩
theorem ok_ask (T : Tx K mg) (d_need_order : Ok P w K mg base (L2.CX P w) 5 "need_order" ["catalog", "order"] (spNeedOrder K)) (d_kept : Ok P w K mg base CX0 5 "kept" ["catalog", "orders"] (spKept K)) : OkM P w K mg base (L2.CX P w) 7 (cB K) "ask" ["self", "order"] (spAsk K) := by
  have sc := sc_ask
  refine OkM.mkXB (q := "Book.ask") (i := 4) T (by decide +kernel) sc (fun _ _ _ _ _ _ us hl => match us, hl with | [_, _], _ => rfl) (fun vs H Q E h => ?_) (fun f cdv A outer s H vs Q E hr h => ?_)
  · obtain ⟨H0, x, v, c, os, n, rfl, _⟩ := h
    rfl
  · obtain ⟨H0, x, v, c, os, n, rfl, B, ok, hlen, hn100, hos, alt⟩ := h
    obtain ⟨dx, lp, lr, vc, ys, zs, hx, hlp, hlr, nlr, x0, lp0, lr0, hc, hy, hz, hzr⟩ := B.ex
    have hl := hy.length
    rw [List.length_map] at hl
    refine ⟨_, pss_cons (ps_expr (pe_fn d_need_order (hr.mono (by decide)) (passes_call (takes_of rfl rfl rfl rfl) fun _ _ _ _ h => h) (pa_cons (k_pe_fld (K := K) rfl (pv 0) rfl) (pa_cons (pv 1) pa_nil))))
      (pss_cons (ps_if (PW.pt (pw_or (pt_cmpR (k_op_in_seq (K := K) rfl) (pe_ix (k_ix_tup (K := K) rfl) (pv 1) (pe_int) (fun _ _ => rfl)) (pe_lc (own := [("one", 3)]) rfl sc.nd (pi_list (k_pe_fld (K := K) rfl (pv 0) rfl)) (blkOk_by (own := [("one", 3)]) (N := ["self", "order", "told", "one"]) (sc := defScope (bk 4)) (by decide +kernel)) (fun _ _ _ _ _ => pg_name (i := 3) sc.nd rfl (Or.inl rfl)) (fun _ _ _ _ _ => pts_nil) (fun _ _ _ _ _ => pe_ix (k_ix_tup (K := K) rfl) (pv 3) (pe_int) (fun _ _ => rfl))) (by rfl)) (pw_or1 (pt_cmpR op_eq (pe_callB (k_len (K := K) rfl) (by rfl) (T.free _ (by decide +kernel)) (by decide +kernel) (pa_cons (k_pe_fld (K := K) rfl (pv 0) rfl) pa_nil)) (pe_ci T (x := "MOST_ORDERS") (i := 12) (by decide +kernel)) (nomark _)))))
        (pss_one (ps_raise rfl (takes_of rfl rfl rfl rfl) (pmk_x T (x := "BadName") (by decide +kernel))))
        (pss_nil))
      (pss_cons (ps_set (i := 2) sc.nd rfl (Or.inl rfl) (pe_fn d_kept (hr.mono (by decide)) pass0 (pa_cons (k_pe_fld (K := K) rfl (pv 0) rfl) (pa_cons (pe_lst (StX.pa_star (k_pe_fld (K := K) rfl (pv 0) rfl) (pa_cons (pv 1) pa_nil))) pa_nil))))
      (pss_cons (ps_if (pt_cmpR op_eq (pe_ix (k_ix_tup (K := K) rfl) (pv 2) (pe_int) (fun _ _ => rfl)) (pe_cs T (x := "CUT") (z := "cut") (by decide +kernel)) (nomark _))
        (pss_cons (ps_expr (pe_bm PySem.F.plainAttrs_list PySem.F.slot_list_append PySem.F.type_list_append mt_append (k_pe_fld (K := K) rfl (pv 0) rfl) (pa_cons (pe_tup (pa_cons (pv 1) (pa_cons (pv 2) pa_nil))) pa_nil)))
        (pss_one (ps_ret (pe_bl))))
        (pss_nil))
      (pss_cons (ps_expr (pe_bm PySem.F.plainAttrs_list PySem.F.slot_list_append PySem.F.type_list_append mt_append (k_pe_fld (K := K) rfl (pv 0) rfl) (pa_cons (pv 1) pa_nil)))
      (pss_one (ps_ret (pe_bl))))))), ?_⟩
    refine ⟨_, rfl, x, _, dx, _, _, rfl, hx, T.bC, T.bN _ (by decide +kernel), bfs_cat, _, rfl, vc, v, c, rfl, hc, ?_⟩
    -- the names that are taken
    have names : ∀ (o : Order) (H1 : Hp) (Q' : Bool → Hp → Prop), Same H H1 → Dp K H1 v o.d → (∀ H2, Same H1 H2 → Q' (decide (o.n ∈ os.map Order.n)) H2) →
        tTest (tOp (rIn K false) (tOp (rIxT K) (tVar 1) (tC (.int 0))) (tLc (iList (cxOf (L2.CX P w) P w K mg base ["self", "order", "told", "one"] "Book.ask" (defScope (bk 4)) f cdv A outer s H E).K (tFld K (tVar 0) "promised")) (gName 3) tYes (tOp (rIxT K) (tVar 3) (tC (.int 0))) [3])) [some (.ref x), some v, none, none] H1 Q' := by
      intro o H1 Q' s1 hv hq
      obtain ⟨b, aw, rfl, hb, _⟩ := order_at hv
      refine ⟨_, rfl, b, _, _, _, rfl, rfl, hb, rfl, _, rfl, x, _, dx, _, _, rfl, s1 _ _ hx, T.bC, T.bN _ (by decide +kernel), bfs_pro, lp, rfl, ⟨_, SqL.of (s1 _ _ hlp)⟩, ?_⟩
      refine lc_gen (walk_list (xs := ys)) (fun i => os[i]?.map fun o => .str o.n) (by omega) (fun H2 s2 => SqL.of (s2 _ _ (s1 _ _ hlp))) (fun i y H2 H3 Rn Ry hi s2 hY hn hy' => ?_) (fun D H2 hD s2 h2 => ?_)
      · obtain ⟨rfl, hx1⟩ := hY
        have s12 := s1.trans s2
        obtain ⟨d, hd1, hd2⟩ := hy.get' hx1
        rw [List.getElem?_map] at hd1
        obtain ⟨o', ho, rfl⟩ := Option.map_eq_some_iff.mp hd1
        obtain ⟨b2, aw2, rfl, hb2, _⟩ := order_at (hd2.same s12)
        exact ⟨rfl, _, rfl, b2, _, _, _, rfl, rfl, hb2, rfl, hy' _ (by rw [ho]; rfl) _ (Same.refl _)⟩
      have e1 : (List.range ys.length).filterMap (fun i => os[i]?.map fun o => V.str o.n) = (os.map Order.n).map V.str := by
        rw [hl, fm_get_map, List.map_map]
        rfl
      rw [e1] at h2
      refine ⟨D, _, rfl, .inl (SqL.of h2), rfl, flat_strs _, _, rfl, ?_⟩
      rw [is_str]
      exact hq _ s2
    rcases alt with ⟨i, rfl, kE⟩ | ⟨o, hv, hok, hin, kE⟩ | ⟨o, hv, hok, hni, kT, kF⟩
    · exact .inr ⟨i, rfl, kE _ (Same.refl _)⟩
    · refine .inl ⟨o, hv, hok, fun H1 s1 => ?_⟩
      refine names o H1 _ s1 (hv.same s1) fun H2 s2 => ?_
      exact iteD hin (kE _ (s1.trans s2))
    · refine .inl ⟨o, hv, hok, fun H1 s1 => ?_⟩
      refine names o H1 _ s1 (hv.same s1) fun H2 s2 => ?_
      refine iteDn hni ?_
      have s02 := s1.trans s2
      refine ⟨_, rfl, x, _, dx, _, _, rfl, s02 _ _ hx, T.bC, T.bN _ (by decide +kernel), bfs_pro, lp, _, rfl, .inl (SqL.of (s02 _ _ hlp)), rfl, _, rfl, iteDn (fun q => by have q2 := V.int.inj q; omega) ?_⟩
      -- told
      refine ⟨_, rfl, x, _, dx, _, _, rfl, s02 _ _ hx, T.bC, T.bN _ (by decide +kernel), bfs_cat, _, rfl, x, _, dx, _, _, rfl, s02 _ _ hx, T.bC, T.bN _ (by decide +kernel), bfs_pro, lp, _, rfl, .inr (SqL.of (s02 _ _ hlp)), _, rfl, ?_, fun D hD => ?_⟩
      · rw [List.length_append, List.length_singleton]
        exact Nat.le_trans (by omega : ys.length + 1 ≤ 100) (by decide)
      have s3 := s02.trans (same_new (o := .lst (ys ++ [v])) hD)
      have hvo : ∀ z ∈ os ++ [o], z.Ok c := fun z hz => by
        rcases List.mem_append.mp hz with q | q
        · exact hos z q
        · rw [List.mem_singleton.mp q]
          exact hok
      refine ⟨vc, D, ys ++ [v], c, os ++ [o], rfl, hc.same s3, ok, SqL.of upd_same, ?_, by rw [List.length_append, List.length_singleton]; omega, hvo, fun t v2 H4 rest g G s4 ht hv2 => ?_, fun t v2 H4 hnf s4 ht => ?_⟩
      · rw [List.map_append]
        exact DpAll.append (hy.same s3) (.cons (hv.same s3) .nil)
      · have s5 := s3.trans s4
        refine ⟨_, rfl, t, _, _, _, rfl, rfl, SqT.of ht, rfl, rfl, _, rfl, iteDn (fun q => by have q2 := V.str.inj q; revert q2; decide +kernel) ?_⟩
        have hlp5 := s5 _ _ hlp
        refine ⟨_, rfl, x, _, dx, _, _, rfl, s5 _ _ hx, T.bC, T.bN _ (by decide +kernel), bfs_pro, .inl ⟨rfl, _, SqL.of hlp5⟩, _, rfl, lp, _, _, rfl, rfl, hlp5, Nat.lt_of_le_of_lt (by omega : ys.length ≤ 100) (by decide), ?_⟩
        have xlp : x ≠ lp := ne_of hx hlp (by intro q; cases q)
        have hk : ∀ a xs, SqT K H4 a xs → SqT K (upd H4 lp (.lst (ys ++ [v]))) a xs := fun a xs h => t_updL hlp5 h
        refine kT G.feas _ ⟨same_mut (B.same.trans s5) lp0, dx, lp, lr, vc, ys ++ [v], zs, by rw [upd_ne xlp]; exact s5 _ _ hx, upd_same, by rw [upd_ne nlr.symm]; exact s5 _ _ hlr, nlr, x0, lp0, lr0, dp_keep hk (Cat.nl c) (hc.same s5), ?_, hz,
          fun z hz' => ((hzr z hz').keep fun _ _ q => same_t s5 q).keep hk⟩
        rw [List.map_append]
        exact DpAll.append (dpAll_keep hk (nlAll_map _ _ fun o _ => Order.nl o) (hy.same s5)) (.cons (dp_keep hk (Order.nl o) (hv.same s5)) .nil)
      · have s5 := s3.trans s4
        refine ⟨_, rfl, t, _, _, _, rfl, rfl, SqT.of ht, rfl, rfl, _, rfl, iteD rfl ?_⟩
        have hlr5 := s5 _ _ hlr
        refine ⟨_, rfl, x, _, dx, _, _, rfl, s5 _ _ hx, T.bC, T.bN _ (by decide +kernel), bfs_ref, .inl ⟨rfl, _, SqL.of hlr5⟩, _, rfl, _, rfl, by show 2 ≤ sizeLine; decide, fun t2 ht2 => ?_⟩
        have s6 := same_new (o := .tup [v, V.ref t]) ht2
        have s56 := s5.trans s6
        have hlr6 := s6 _ _ hlr5
        -- the list of refusals is never long: its length is bounded by nothing here, but lists hold
        refine ⟨lr, _, _, rfl, rfl, hlr6, ?_, ?_⟩
        · exact Nat.lt_of_le_of_lt (by omega : zs.length ≤ 100) (by decide)
        have xlr : x ≠ lr := ne_of hx hlr (by intro q; cases q)
        have hk : ∀ a xs, SqT K (upd H4 t2 (.tup [v, V.ref t])) a xs → SqT K (upd (upd H4 t2 (.tup [v, V.ref t])) lr (.lst (zs ++ [V.ref t2]))) a xs := fun a xs h => t_updL hlr6 h
        refine kF hnf _ ⟨same_mut (B.same.trans s56) lr0, dx, lp, lr, vc, ys, zs ++ [.ref t2], by rw [upd_ne xlr]; exact s56 _ _ hx, by rw [upd_ne nlr]; exact s56 _ _ hlp, upd_same, nlr, x0, lp0, lr0, dp_keep hk (Cat.nl c) (hc.same s56),
          dpAll_keep hk (nlAll_map _ _ fun o _ => Order.nl o) (hy.same s56), by rw [List.length_append, hz]; rfl, fun z hz' => ?_⟩
        rcases List.mem_append.mp hz' with q | q
        · exact ((hzr z q).keep fun _ _ q => same_t s56 q).keep hk
        · rw [List.mem_singleton.mp q]
          exact ⟨t2, t, v, v2, rfl, hk _ _ (SqT.of upd_same), hk _ _ (SqT.of (s6 _ _ ht))⟩
end
end KS
set_option Elab.async false
set_option linter.all false
set_option maxRecDepth 100000
set_option maxHeartbeats 8000000
set_option pp.maxSteps 400
/-! Book.room_for, most, earliest, curve. -/
namespace KS
open PySem PySem.Spec PyProof.Rows L2
section
variable {P : Program} {w : World} {K : PySem.W.Frag} {mg : Str → Option Value} {base : Heap}
/-- the pairs (order, place) of wishes -/
def heldD (ws : List FW) (ms : List Nat) : List PyData := ms.filterMap fun u => ws[u]?.map fun f => .tuple [.str f.n, .int (f.at_ : Nat)]
/-- the wishes that hold the rest -/
structure HoldOk (c : Cat) (ws : List FW) (its : List Str) (r : Str) (b : Int) (ms : List Nat) : Prop where
  nd : ms.Nodup
  eq : 0 - over c (masked (fun u => decide (u ∈ ms)) ws ++ [newF its r b]) = moreV c ws its r b
  nn : 0 ≤ moreV c ws its r b
  nx : ∀ f : FW, f.its = its → f.r = r → f.by_ = b → f.cnt = moreV c ws its r b → KF.Feas (roomsOf c) (ablesOf c (ws ++ [f])) (needsOf (ws ++ [f])) ∧ moreV c (ws ++ [f]) its r b = 0
theorem set_last (l : List Int) (z y : Int) : (l ++ [z]).set l.length y = l ++ [y] := by
  rw [List.set_append_right _ _ (Nat.le_refl _), Nat.sub_self]
  rfl
theorem getD_last (l : List Int) (z : Int) : (l ++ [z]).getD l.length 0 = z := by
  rw [List.getD_eq_getElem?_getD, List.getElem?_append_right (Nat.le_refl _), Nat.sub_self]
  rfl
theorem sum_rooms {c : Cat} (ok : c.Ok) : 0 ≤ (roomsOf c).sum ∧ (roomsOf c).sum ≤ 2000 := by
  have h : ∀ l : List Sup, (∀ x ∈ l, x.Ok c) → 0 ≤ (l.map Sup.cnt).sum ∧ (l.map Sup.cnt).sum ≤ 99 * l.length := by
    intro l
    induction l with
    | nil => intro _; exact ⟨Int.le_refl _, Int.le_refl _⟩
    | cons a r ih =>
      intro hl
      have q := ih fun x hx => hl x (List.mem_cons_of_mem _ hx)
      have q2 := (hl a List.mem_cons_self).cnt
      rw [List.map_cons, List.sum_cons, List.length_cons]
      omega
  have q := h c.sups ok.sups
  have q2 := ok.sn
  unfold roomsOf
  omega
def spRoomFor (K : PySem.W.Frag) : Sp := fun vs H Q _ => ∃ (H0 : Hp) (x : Addr) (vi : V) (c : Cat) (os : List Order) (n : Nat) (its : List Str) (r : Str) (b : Int), vs = [.ref x, vi, .str r, .int b] ∧ BAt K H0 H x c os n ∧ c.Ok ∧ os.length ≤ 12 ∧ (∀ o ∈ os, o.Ok c) ∧ FeasO c os ∧ Dp K H vi (strsD its) ∧ nameOk r = true ∧
  ∀ (t : Addr) (v : V) (H' : Hp) (ms : List Nat), Same H H' → H' t = some (.tup [.int (moreV c (wishesOf os) its r b), v]) → Dp K H' v (.tuple (heldD (wishesOf os) ms)) → HoldOk c (wishesOf os) its r b ms → Q (.ref t) H'
theorem sc_roomfor : FnScope ["self", "items", "region", "by", "wishes", "able", "giving", "met", "found", "wish", "at"] ["self", "items", "region", "by"] (defScope (bk 6)) := ⟨rfl, rfl, rfl, by decide +kernel, rfl, by decide +kernel, by decide +kernel⟩
theorem ok_roomfor (T : Tx K mg) (d_wishes_of : Ok P w K mg base CX0 1 "wishes_of" ["orders"] (spWishesOf K)) (d_rooms_of : Ok P w K mg base CX0 1 "rooms_of" ["catalog"] (spRoomsOf K)) (d_ables_of : Ok P w K mg base CX0 4 "ables_of" ["catalog", "wishes"] (spAblesOf K))
    (d_servers : Ok P w K mg base CX0 3 "servers" ["catalog", "items", "region", "by"] (spServers K)) (d_given_all : Ok P w K mg base CX0 3 "given_all" ["rooms", "needs", "able"] (spGivenAll K)) (d_serve : OkM P w K mg base CX0 2 (cG K) "serve" ["self", "wish", "most"] (spServe K)) :
    OkM P w K mg base CX0 5 (cB K) "room_for" ["self", "items", "region", "by"] (spRoomFor K) := by
  have sc := sc_roomfor
  refine OkM.mk_B (q := "Book.room_for") (i := 6) T (by decide +kernel) sc (fun _ _ _ _ _ _ us hl => match us, hl with | [_, _, _, _], _ => rfl) (fun vs H Q E h => ?_) (fun f cdv A outer s H vs Q E hr h => ?_)
  · obtain ⟨H0, x, vi, c, os, n, its, r, b, rfl, _⟩ := h
    rfl
  · obtain ⟨H0, x, vi, c, os, n, its, r, b, rfl, B, ok, hlen, hos, F, hvi, hrn, k⟩ := h
    obtain ⟨dx, lp, lr, vc, ys, zs, hx, hlp, hlr, nlr, x0, lp0, lr0, hc, hy, hz, hzr⟩ := B.ex
    have hw3 : ∀ o ∈ os, o.ws.length ≤ 3 := fun o ho => (hos o ho).wn.2
    have wl := wishesOf_len os hw3
    have wok := wishes_ok hos
    have hal : (ablesOf c (wishesOf os)).length = (wishesOf os).length := List.length_map ..
    have hrl : (roomsOf c).length = c.sups.length := List.length_map ..
    have hnl : (needsOf (wishesOf os)).length = (wishesOf os).length := List.length_map ..
    have csn := ok.sn
    refine ⟨_, pss_cons (ps_set (i := 4) sc.nd rfl (Or.inr rfl) (pe_fn d_wishes_of (hr.mono (by decide)) pass0 (pa_cons (k_pe_fld (K := K) rfl (pv 0) rfl) pa_nil)))
      (pss_cons (ps_set (i := 5) sc.nd rfl (Or.inl rfl) (pe_op op_cat (pe_fn d_ables_of (hr.mono (by decide)) pass0 (pa_cons (k_pe_fld (K := K) rfl (pv 0) rfl) (pa_cons (pv 4) pa_nil))) (pe_lst (pa_cons (pe_fn d_servers (hr.mono (by decide)) pass0 (pa_cons (k_pe_fld (K := K) rfl (pv 0) rfl) (pa_cons (pv 1) (pa_cons (pv 2) (pa_cons (pv 3) pa_nil))))) pa_nil))))
      (pss_cons (ps_asg (pe_fn d_given_all (hr.mono (by decide)) pass0 (pa_cons (pe_fn d_rooms_of (hr.mono (by decide)) pass0 (pa_cons (k_pe_fld (K := K) rfl (pv 0) rfl) pa_nil)) (pa_cons (pe_op op_cat (pe_lc (own := [("wish", 9)]) rfl sc.nd (pi_list (pv 4)) (blkOk_by (own := [("wish", 9)]) (N := ["self", "items", "region", "by", "wishes", "able", "giving", "met", "found", "wish", "at"]) (sc := defScope (bk 6)) (by decide +kernel)) (fun _ _ _ _ _ => pg_name (i := 9) sc.nd rfl (Or.inl rfl)) (fun _ _ _ _ _ => pts_nil) (fun _ _ _ _ _ => pe_ix (k_ix_tup (K := K) rfl) (pv 9) (pe_int) (fun _ _ => rfl))) (pe_lst (pa_cons (pe_int) pa_nil))) (pa_cons (pv 5) pa_nil)))) (k_pg_tup (K := K) (n := 2) rfl rfl (pgs_cons (pg_name (i := 6) sc.nd rfl (Or.inl rfl)) (pgs_cons (pg_name (i := 7) sc.nd rfl (Or.inl rfl)) pgs_nil))))
      (pss_cons (ps_set (i := 8) sc.nd rfl (Or.inl rfl) (pe_mth d_serve (hr.mono (by decide)) pass0 (pv 6) (pa_cons (pe_callB (k_len (K := K) rfl) (by rfl) (T.free _ (by decide +kernel)) (by decide +kernel) (pa_cons (pv 4) pa_nil)) (pa_cons (pe_op op_add (pe_callB (k_sum (K := K) rfl rfl) (by rfl) (T.free _ (by decide +kernel)) (by decide +kernel) (pa_cons (pe_fn d_rooms_of (hr.mono (by decide)) pass0 (pa_cons (k_pe_fld (K := K) rfl (pv 0) rfl) pa_nil)) pa_nil)) (pe_int)) pa_nil))))
      (pss_one (ps_ret (pe_tup (pa_cons (pe_ix (k_ix_list (K := K) rfl) (k_pe_fld (K := K) rfl (pv 6) rfl) (pe_callB (k_len (K := K) rfl) (by rfl) (T.free _ (by decide +kernel)) (by decide +kernel) (pa_cons (pv 4) pa_nil)) (fun _ _ => rfl)) (pa_cons (pe_callTy (k_tuple (K := K) rfl) (by rfl) (T.free _ (by decide +kernel)) (by decide +kernel) (pa_cons (pe_lc (own := [("at", 10)]) rfl sc.nd (pi_list (pv 8)) (blkOk_by (own := [("at", 10)]) (N := ["self", "items", "region", "by", "wishes", "able", "giving", "met", "found", "wish", "at"]) (sc := defScope (bk 6)) (by decide +kernel)) (fun _ _ _ _ _ => pg_name (i := 10) sc.nd rfl (Or.inl rfl)) (fun _ _ _ _ _ => pts_one (pt_cmpR op_lt (pv 10) (pe_callB (k_len (K := K) rfl) (by rfl) (T.free _ (by decide +kernel)) (by decide +kernel) (pa_cons (pv 4) pa_nil)) (nomark _))) (fun _ _ _ _ _ => pe_slice (k_sl_tup (K := K) rfl) (pe_ix (k_ix_list (K := K) rfl) (pv 4) (pv 10) (fun _ _ => rfl)) po_none (po_some (pe_int)))) pa_nil)) pa_nil)))))))), ?_⟩
    refine ⟨_, rfl, x, _, dx, _, _, rfl, hx, T.bC, T.bN _ (by decide +kernel), bfs_pro, lp, ys, os, rfl, SqL.of hlp, hy, by omega, hw3, fun lw yw H1 s1 hlw hlw1 hdw => ?_⟩
    have lyw := hdw.length
    rw [List.length_map] at lyw
    -- able
    refine ⟨_, rfl, x, _, dx, _, _, rfl, s1 _ _ hx, T.bC, T.bN _ (by decide +kernel), bfs_cat, _, rfl, vc, lw, yw, c, wishesOf os, rfl, hc.same s1, ok, SqL.of hlw1, hdw, by omega, fun f hf => (wok f hf).rn, fun pa as H2 s2 hpa hpa2 hasl hasat => ?_⟩
    have s02 := s1.trans s2
    refine ⟨_, rfl, x, _, dx, _, _, rfl, s02 _ _ hx, T.bC, T.bN _ (by decide +kernel), bfs_cat, _, rfl, _, rfl, _, rfl, vc, vi, c, its, r, b, rfl, hc.same s02, ok, hvi.same s02, hrn, fun psv H3 s3 hpsv hpsv3 => ⟨by show 1 ≤ sizeLine; decide, fun pl hpl => ?_⟩⟩
    have s4 := same_new (o := .lst [V.ref psv]) hpl
    have s34 := s3.trans s4
    refine ⟨pa, pl, _, _, rfl, rfl, s34 _ _ hpa2, upd_same, ?_, fun pab hpab => ?_⟩
    · rw [List.length_map]
      exact Nat.le_trans (by show as.length + 1 ≤ 100; omega) (by decide)
    have s5 := same_new (o := .lst (as.map V.ref ++ [V.ref psv])) hpab
    have s15 := s2.trans (s34.trans s5)
    have s05 := s1.trans s15
    have s35 := s4.trans s5
    have hAb : AbleAt K (upd (upd H3 pl (.lst [V.ref psv])) pab (.lst (as.map V.ref ++ [V.ref psv]))) pab (ablesOf c (wishesOf os) ++ [servers c its r b]) := by
      refine ⟨as ++ [psv], by rw [List.map_append]; exact SqL.of upd_same, by rw [List.length_append, List.length_append, hasl]; rfl, fun i q l e1 e2 => ?_⟩
      by_cases hi : i < as.length
      · rw [List.getElem?_append_left hi] at e1
        rw [List.getElem?_append_left (by omega)] at e2
        exact (s34.trans s5).seq (hasat i q l e1 e2)
      · rw [List.getElem?_append_right (by omega)] at e1 e2
        by_cases e : i - as.length = 0
        · rw [e] at e1
          rw [show i - (ablesOf c (wishesOf os)).length = 0 by omega] at e2
          cases e1
          cases e2
          exact s35.seq (SqL.of hpsv3)
        · rw [List.getElem?_eq_none (by simp; omega)] at e1
          cases e1
    -- rooms, needs
    refine ⟨_, rfl, x, _, dx, _, _, rfl, s05 _ _ hx, T.bC, T.bN _ (by decide +kernel), bfs_cat, vc, c, rfl, hc.same s05, csn, fun pr H6 s6 hpr hpr6 => ?_⟩
    have s06 := s05.trans s6
    have s16 := s15.trans s6
    refine ⟨_, rfl, lw, rfl, ⟨_, SqL.of (s16 _ _ hlw1)⟩, ?_⟩
    refine lc_gen (walk_list (xs := yw)) (fun i => (wishesOf os)[i]?.map fun f => .int f.cnt) (by omega) (fun H7 s7 => SqL.of (s7 _ _ (s16 _ _ hlw1))) (fun i y H7 H8 Rn Ry hi s7 hY hn hy' => ?_) (fun D H7 hD s7 h7 => ?_)
    · obtain ⟨rfl, hx1⟩ := hY
      obtain ⟨d, hd1', hd2⟩ := hdw.get' hx1
      rw [List.getElem?_map] at hd1'
      obtain ⟨f, hf, rfl⟩ := Option.map_eq_some_iff.mp hd1'
      obtain ⟨q, qi, rfl, hb, _⟩ := fw_at (hd2.same (s16.trans s7))
      exact ⟨rfl, _, rfl, q, _, _, _, rfl, rfl, hb, rfl, hy' _ (by rw [hf]; rfl) _ (Same.refl _)⟩
    have e7 : (List.range yw.length).filterMap (fun i => (wishesOf os)[i]?.map fun f => V.int f.cnt) = intsV (needsOf (wishesOf os)) := by
      rw [lyw, fm_get_map]
      unfold intsV needsOf
      rw [List.map_map]
      rfl
    rw [e7] at h7
    refine ⟨by show 1 ≤ sizeLine; decide, fun pz hpz => ?_⟩
    have s8 := same_new (o := .lst [V.int 0]) hpz
    refine ⟨D, pz, _, _, rfl, rfl, s8 _ _ h7, upd_same, ?_, fun pn hpn => ?_⟩
    · rw [intsV_len, hnl]
      exact Nat.le_trans (by show (wishesOf os).length + 1 ≤ 100; omega) (by decide)
    have en : intsV (needsOf (wishesOf os)) ++ [V.int 0] = intsV (needsOf (wishesOf os) ++ [0]) := by
      unfold intsV
      rw [List.map_append]
      rfl
    rw [en]
    have s9 := s8.trans (same_new (o := .lst (intsV (needsOf (wishesOf os) ++ [0]))) hpn)
    have s69 := s7.trans s9
    have s19 := s16.trans s69
    have s09 := s1.trans s19
    have hal2 : (ablesOf c (wishesOf os) ++ [servers c its r b]).length = (wishesOf os).length + 1 := by rw [List.length_append, hal]; rfl
    have hab2 : ∀ (u : Nat) (l : List Nat), (ablesOf c (wishesOf os) ++ [servers c its r b])[u]? = some l → ∀ s, s ∈ l → s < (roomsOf c).length := fun u l hl s hs => by
      have e : ablesOf c (wishesOf os) ++ [servers c its r b] = ablesOf c (wishesOf os ++ [newF its r b]) := (ables_snoc c (wishesOf os) (newF its r b)).symm
      rw [e] at hl
      exact ables_lt hl s hs
    refine ⟨_, rfl, pr, pn, pab, roomsOf c, needsOf (wishesOf os) ++ [0], ablesOf c (wishesOf os) ++ [servers c its r b], rfl, SqL.of (s69 _ _ hpr6), SqL.of upd_same, hAb.same (s6.trans s69), by omega, by omega, ?_, hab2, rooms_nn ok, fun z hz => ?_, fun H10 t xg rest g GO ht htn => ?_,
      fun H10 t xg pm ms hnf => absurd (feas_zero ok F) hnf⟩
    · rw [List.length_append, List.length_append, hnl, hal]
      rfl
    · rcases List.mem_append.mp hz with q | q
      · obtain ⟨f, hf, rfl⟩ := List.mem_map.mp q
        have q2 := (wok f hf).cnt
        exact ⟨by omega, by omega⟩
      · rw [List.mem_singleton.mp q]
        exact ⟨by omega, by omega⟩
    have s10 := GO.at_.same
    have s010 := s09.trans s10
    have s110 := s19.trans s10
    refine ⟨t, _, rfl, SqT.of ht, rfl, _, _, rfl, _, _, rfl, rfl, ?_⟩
    -- found = giving.serve(len(wishes), sum(rooms) + 1)
    obtain ⟨dxg, lrg, lag, dgg, lhg, vng, kvsg, hxg, _⟩ := GO.at_.ex
    obtain ⟨sm0, sm1⟩ := sum_rooms ok
    refine ⟨_, rfl, xg, dxg, _, rfl, hxg, gfs_no (by decide +kernel), _, rfl, lw, _, rfl, .inl (SqL.of (s110 _ _ hlw1)), ?_⟩
    refine ⟨_, rfl, x, _, dx, _, _, rfl, s010 _ _ hx, T.bC, T.bN _ (by decide +kernel), bfs_cat, vc, c, rfl, hc.same s010, csn, fun pr2 H11 s11 hpr2 hpr11 => ?_⟩
    refine ⟨pr2, roomsOf c, rfl, SqL.of hpr11, _, _, rfl, rfl, ?_⟩
    have esum : (roomsOf c).sum + 1 = (((roomsOf c).sum + 1).toNat : Nat) := (Int.toNat_of_nonneg (by omega)).symm
    have egl : (needsOf (wishesOf os) ++ [0]).getD (wishesOf os).length 0 = 0 := by
      have q := getD_last (needsOf (wishesOf os)) 0
      rw [hnl] at q
      exact q
    have esl : ∀ y : Int, (needsOf (wishesOf os) ++ [0]).set (wishesOf os).length y = needsOf (wishesOf os) ++ [y] := fun y => by
      have q := set_last (needsOf (wishesOf os)) 0 y
      rw [hnl] at q
      exact q
    refine ⟨_, xg, (wishesOf os).length, ((roomsOf c).sum + 1).toNat, roomsOf c, _, rest, _, g, ?_, ⟨GO.at_.more s11, GO.giv, GO.la, GO.lr⟩, by omega, by omega, fun H12 rest' had' g' GO12 eh => ?_, fun H12 pf rest' had' g' kk ms GO12 hkk eh hpf hpf0 HD => ?_⟩
    · rw [← esum, lyw]
      rfl
    · exfalso
      rw [egl, esl] at eh
      have q := had_le GO12.giv (u := (wishesOf os).length) (by omega)
      rw [eh] at q
      have q2 := getD_last (needsOf (wishesOf os)) (0 + (((roomsOf c).sum + 1).toNat : Nat))
      rw [hnl] at q2
      rw [q2] at q
      omega
    rw [egl, esl, Int.zero_add] at eh
    subst eh
    have s12 := GO12.at_.same
    have s012 := s09.trans s12
    have s112 := s19.trans s12
    obtain ⟨MV, OV⟩ := more_of (b := b) GO12.giv HD.cl (decide_eq_true HD.mem)
    obtain ⟨dxh, lrh, lah, dgh, lhh, vnh, kvsh, hxh, hlrh, hdgh, hlhh, _⟩ := GO12.at_.ex
    refine ⟨_, rfl, xg, _, dxh, _, _, rfl, hxh, T.gC, T.gN _ (by decide +kernel), gfs_had, _, rfl, lw, _, rfl, .inl (SqL.of (s112 _ _ hlw1)), lhh, _, _, .int (kk : Nat), rfl, rfl, SqL.of hlhh, ?_, ?_⟩
    · refine at_of (j := (wishesOf os).length) (by rw [lyw]) ?_
      refine intsV_get ?_
      rw [List.getElem?_append_right (by omega), hnl, Nat.sub_self]
      rfl
    refine ⟨_, rfl, pf, rfl, ⟨_, SqL.of hpf⟩, ?_⟩
    refine lc_dat (K := K) (walk_list (xs := natsV ms)) (fun i => ms[i]?.bind fun u => (wishesOf os)[u]?.map fun f => PyData.tuple [.str f.n, .int (f.at_ : Nat)]) (fun i d _ e => ?_) ?_ (fun H13 s13 => SqL.of (s13 _ _ hpf)) (fun i y H13 H14 Rn Ry hi s13 hY hn' hy' => ?_) (fun D2 acc H13 hD2 s13 h13 h13d => ?_)
    · obtain ⟨u, _, e⟩ := Option.bind_eq_some_iff.mp e
      obtain ⟨f, _, rfl⟩ := Option.map_eq_some_iff.mp e
      rfl
    · rw [natsV_len]
      have q := nodup_len HD.nd HD.lt
      omega
    · obtain ⟨rfl, hx1⟩ := hY
      have s013 := s012.trans s13
      have s113 := s112.trans s13
      have hi' : i < ms.length := by rw [natsV_len] at hi; exact hi
      obtain ⟨u, hu⟩ : ∃ u, ms[i]? = some u := ⟨ms[i], List.getElem?_eq_getElem hi'⟩
      have ey := (natsV_get hu).symm.trans hx1
      cases ey
      refine ⟨rfl, _, rfl, _, rfl, lw, _, rfl, .inl (SqL.of (s113 _ _ hlw1)), _, _, rfl, rfl, _, rfl, ite2 (fun hlt => ?_) fun hge => ?_⟩
      · have hul : u < (wishesOf os).length := by
          have q := of_decide_eq_true hlt
          rw [lyw] at q
          omega
        obtain ⟨f, hf⟩ : ∃ f, (wishesOf os)[u]? = some f := ⟨(wishesOf os)[u], List.getElem?_eq_getElem hul⟩
        obtain ⟨z, hz, hzd⟩ := hdw.get (i := u) (d := f.d) (by rw [List.getElem?_map, hf]; rfl)
        obtain ⟨q, qi, rfl, hb, hbi⟩ := fw_at (hzd.same s113)
        refine ⟨_, rfl, _, rfl, lw, _, _, _, rfl, rfl, SqL.of (s113 _ _ hlw1), at_of rfl hz, _, rfl, q, _, rfl, hb, nw2 (n := 6) rfl (by decide), fun q2 hq2 => ?_⟩
        refine hy' (.tuple [.str f.n, .int (f.at_ : Nat)]) (by rw [hu]; show ((wishesOf os)[u]?.map _) = _; rw [hf]; rfl) _ _ (same_new hq2) (.tup (SqT.of upd_same) ?_)
        exact .cons (.str _) (.cons (.int _) .nil)
      · have hul : ¬ u < (wishesOf os).length := fun q => hge (decide_eq_true (by rw [lyw]; omega))
        refine hn' ?_ _ (Same.refl _)
        rw [hu]
        show ((wishesOf os)[u]?.map _) = _
        rw [List.getElem?_eq_none (by omega)]
        rfl
    · have e13 : (List.range (natsV ms).length).filterMap (fun i => ms[i]?.bind fun u => (wishesOf os)[u]?.map fun f => PyData.tuple [.str f.n, .int (f.at_ : Nat)]) = heldD (wishesOf os) ms := by
        rw [natsV_len]
        exact fm_get ms _
      rw [e13] at h13d
      refine ⟨D2, _, rfl, .inl ⟨SqL.of h13, fun t1 ht1 => ⟨by show 2 ≤ sizeLine; decide, fun t2 ht2 => ?_⟩⟩⟩
      have st1 := same_new (o := .tup acc) ht1
      have st2 := same_new (o := .tup [V.int (kk : Nat), V.ref t1]) ht2
      refine k t2 (.ref t1) _ ms ((s012.trans s13).trans (st1.trans st2)) ?_ ((Dp.tup (SqT.of upd_same) (h13d.same st1) : Dp K _ (.ref t1) (.tuple (heldD (wishesOf os) ms))).same st2) ⟨HD.nd, by rw [OV, MV], by rw [MV]; omega, fun f e1 e2 e3 e4 => more_zero GO12.giv HD.cl (decide_eq_true HD.mem) f e1 e2 e3 (by rw [e4, MV])⟩
      rw [MV]
      exact upd_same
end
end KS
set_option Elab.async false
set_option linter.all false
set_option maxRecDepth 100000
set_option maxHeartbeats 8000000
set_option pp.maxSteps 400
/-! Book.most, earliest, curve. -/
namespace KS
open PySem PySem.Spec PyProof.Rows L2
section
variable {P : Program} {w : World} {K : PySem.W.Frag} {mg : Str → Option Value} {base : Heap}
/-- what a question of a book asks of what stands -/
structure Askd (K : PySem.W.Frag) (H0 H : Hp) (x : Addr) (vi : V) (c : Cat) (os : List Order) (n : Nat) (its : List Str) (r : Str) : Prop where
  b : BAt K H0 H x c os n
  ok : c.Ok
  len : os.length ≤ 12
  oo : ∀ o ∈ os, o.Ok c
  f : FeasO c os
  vi : Dp K H vi (strsD its)
  nm : namesOk its 3
  rn : nameOk r = true
  r : r ∈ c.rs
theorem Askd.more {H0 H H' : Hp} {x : Addr} {vi : V} {c : Cat} {os : List Order} {n : Nat} {its : List Str} {r : Str} (h : Askd K H0 H x vi c os n its r) (e : Same H H') : Askd K H0 H' x vi c os n its r :=
  ⟨h.b.more e, h.ok, h.len, h.oo, h.f, h.vi.same e, h.nm, h.rn, h.r⟩
def spMost (K : PySem.W.Frag) : Sp := fun vs H Q E => ∃ (H0 : Hp) (x : Addr) (vi : V) (c : Cat) (os : List Order) (n : Nat) (its : List Str) (r : Str) (b : Int), vs = [.ref x, vi, .str r, .int b] ∧ Askd K H0 H x vi c os n its r ∧ 0 ≤ b ∧ b ≤ 60 ∧
  ((∀ s ∈ its, s ∈ c.its) → ∀ (t : Addr) (v : V) (H' : Hp) (ms : List Nat), Same H H' → H' t = some (.tup [.int (moreV c (wishesOf os) its r b), v]) → Dp K H' v (.tuple (heldD (wishesOf os) ms)) → HoldOk c (wishesOf os) its r b ms → Q (.ref t) H') ∧
  ((¬ ∀ s ∈ its, s ∈ c.its) → ∀ H', Same H H' → E (.ref (He.ga K "BadItem")) none H')
theorem sc_most : FnScope ["self", "items", "region", "by"] ["self", "items", "region", "by"] (defScope (bk 7)) := ⟨rfl, rfl, rfl, by decide +kernel, rfl, by decide +kernel, by decide +kernel⟩
theorem ok_most (T : Tx K mg) (d_need_asked : Ok P w K mg base (L2.CX P w) 3 "need_asked" ["catalog", "items", "region"] (spNeedAsked K)) (d_need_day : Ok P w K mg base CX0 2 "need_day" ["day"] spNeedDay) (d_room_for : OkM P w K mg base CX0 5 (cB K) "room_for" ["self", "items", "region", "by"] (spRoomFor K)) :
    OkM P w K mg base (L2.CX P w) 7 (cB K) "most" ["self", "items", "region", "by"] (spMost K) := by
  have sc := sc_most
  refine OkM.mkXB (q := "Book.most") (i := 7) T (by decide +kernel) sc (fun _ _ _ _ _ _ us hl => match us, hl with | [_, _, _, _], _ => rfl) (fun vs H Q E h => ?_) (fun f cdv A outer s H vs Q E hr h => ?_)
  · obtain ⟨H0, x, vi, c, os, n, its, r, b, rfl, _⟩ := h
    rfl
  · obtain ⟨H0, x, vi, c, os, n, its, r, b, rfl, AK, b0, b60, kQ, kE⟩ := h
    obtain ⟨dx, lp, lr, vc, ys, zs, hx, hlp, hlr, nlr, x0, lp0, lr0, hc, hy, hz, hzr⟩ := AK.b.ex
    refine ⟨_, pss_cons (ps_expr (pe_fn d_need_asked (hr.mono (by decide)) (passes_call (takes_of rfl rfl rfl rfl) fun _ _ _ _ h => h) (pa_cons (k_pe_fld (K := K) rfl (pv 0) rfl) (pa_cons (pv 1) (pa_cons (pv 2) pa_nil)))))
      (pss_cons (ps_expr (pe_fn d_need_day (hr.mono (by decide)) pass0 (pa_cons (pv 3) pa_nil)))
      (pss_one (ps_ret (pe_mth d_room_for (hr.mono (by decide)) pass0 (pv 0) (pa_cons (pv 1) (pa_cons (pv 2) (pa_cons (pv 3) pa_nil))))))), ?_⟩
    refine ⟨_, rfl, x, _, dx, _, _, rfl, hx, T.bC, T.bN _ (by decide +kernel), bfs_cat, _, rfl, _, rfl, vc, vi, c, its, r, rfl, hc, AK.vi, AK.nm, AK.rn, AK.r, fun hin H1 s1 => ?_, fun hnin H1 s1 => kE hnin H1 s1⟩
    refine ⟨_, rfl, b, rfl, b0, b60, ?_⟩
    have A1 := AK.more s1
    exact ⟨_, rfl, x, dx, _, rfl, s1 _ _ hx, bfs_no (by decide +kernel), _, rfl, _, rfl, _, rfl, H0, x, vi, c, os, n, its, r, b, rfl, A1.b, A1.ok, A1.len, A1.oo, A1.f, A1.vi, A1.rn, fun t v H2 ms s2 ht hv ho => kQ hin t v H2 ms (s1.trans s2) ht hv ho⟩
/-! ### earliest -/
def earliestV (f : Int → Int) (k : Int) (m : Nat) : Option Nat := (List.range m).find? fun d => decide (k ≤ f (d : Nat))
def spEarliest (K : PySem.W.Frag) : Sp := fun vs H Q E => ∃ (H0 : Hp) (x : Addr) (vi : V) (c : Cat) (os : List Order) (n : Nat) (its : List Str) (r : Str) (k : Int), vs = [.ref x, vi, .str r, .int k] ∧ Askd K H0 H x vi c os n its r ∧ (∀ s ∈ its, s ∈ c.its) ∧
  (1 ≤ k ∧ k ≤ 999 → (earliestV (moreV c (wishesOf os) its r) k 61 = none → ∀ H', Same H H' → Q .non H') ∧ ∀ d : Nat, earliestV (moreV c (wishesOf os) its r) k 61 = some d → ∀ H', Same H H' → Q (.int (d : Nat)) H') ∧
  (¬ (1 ≤ k ∧ k ≤ 999) → ∀ H', Same H H' → E (.ref (He.ga K "BadNumber")) none H')
theorem sc_earliest : FnScope ["self", "items", "region", "count", "day"] ["self", "items", "region", "count"] (defScope (bk 8)) := ⟨rfl, rfl, rfl, by decide +kernel, rfl, by decide +kernel, by decide +kernel⟩
theorem ok_earliest (T : Tx K mg) (d_need_asked : Ok P w K mg base (L2.CX P w) 3 "need_asked" ["catalog", "items", "region"] (spNeedAsked K)) (d_is_whole : Ok P w K mg base CX0 1 "is_whole" ["thing", "least", "most"] spWhole) (d_room_for : OkM P w K mg base CX0 5 (cB K) "room_for" ["self", "items", "region", "by"] (spRoomFor K)) :
    OkM P w K mg base (L2.CX P w) 7 (cB K) "earliest" ["self", "items", "region", "count"] (spEarliest K) := by
  have sc := sc_earliest
  refine OkM.mkXB (q := "Book.earliest") (i := 8) T (by decide +kernel) sc (fun _ _ _ _ _ _ us hl => match us, hl with | [_, _, _, _], _ => rfl) (fun vs H Q E h => ?_) (fun f cdv A outer s H vs Q E hr h => ?_)
  · obtain ⟨H0, x, vi, c, os, n, its, r, k, rfl, _⟩ := h
    rfl
  · obtain ⟨H0, x, vi, c, os, n, its, r, k, rfl, AK, hin, kQ, kE⟩ := h
    obtain ⟨dx, lp, lr, vc, ys, zs, hx, hlp, hlr, nlr, x0, lp0, lr0, hc, hy, hz, hzr⟩ := AK.b.ex
    refine ⟨_, pss_cons (ps_expr (pe_fn d_need_asked (hr.mono (by decide)) (passes_call (takes_of rfl rfl rfl rfl) fun _ _ _ _ h => h) (pa_cons (k_pe_fld (K := K) rfl (pv 0) rfl) (pa_cons (pv 1) (pa_cons (pv 2) pa_nil)))))
      (pss_cons (ps_if (pt_not (pt_val (pe_fn d_is_whole (hr.mono (by decide)) pass0 (pa_cons (pv 3) (pa_cons (pe_int) (pa_cons (pe_int) pa_nil))))))
        (pss_one (ps_raise rfl (takes_of rfl rfl rfl rfl) (pmk_x T (x := "BadNumber") (by decide +kernel))))
        (pss_nil))
      (pss_cons (ps_for (passes_of rfl) rfl (pi_range1 rfl (T.free _ (by decide +kernel)) (pa_cons (pe_op op_add (pe_ci T (x := "LAST_DAY") (i := 60) (by decide +kernel)) (pe_int)) pa_nil)) (pg_name (i := 4) sc.nd rfl (Or.inl rfl))
        (pss_one (ps_if (pt_cmpR op_ge (pe_ix (k_ix_tup (K := K) rfl) (pe_mth d_room_for (hr.mono (by decide)) pass0 (pv 0) (pa_cons (pv 1) (pa_cons (pv 2) (pa_cons (pv 4) pa_nil)))) (pe_int) (fun _ _ => rfl)) (pv 3) (nomark _))
          (pss_one (ps_ret (pv 4)))
          (pss_nil))))
      (pss_one (ps_ret (pe_non))))), ?_⟩
    refine ⟨_, rfl, x, _, dx, _, _, rfl, hx, T.bC, T.bN _ (by decide +kernel), bfs_cat, _, rfl, _, rfl, vc, vi, c, its, r, rfl, hc, AK.vi, AK.nm, AK.rn, AK.r, fun _ H1 s1 => ?_, fun hnin => absurd hin hnin⟩
    refine ⟨_, rfl, k, 1, 999, rfl, _, rfl, ?_⟩
    by_cases hk : 1 ≤ k ∧ k ≤ 999
    · refine iteEf (by rw [whole_in hk]; rfl) ?_
      obtain ⟨k1, k2⟩ := kQ hk
      refine ⟨_, _, rfl, rfl, _, rfl, by decide, by decide, ?_⟩
      have e61 : ((60 : Int) + 1).toNat = 61 := rfl
      rw [e61]
      refine for_it (walk_range (lo := 0) (n := 61)) (fun i σ H2 => ∃ (v4 : Option V), σ = [some (.ref x), some vi, some (.str r), some (.int k), v4] ∧ Same H H2 ∧ ∀ d : Nat, d < i → decide (k ≤ moreV c (wishesOf os) its r (d : Nat)) = false) ⟨_, rfl, s1, fun d hd => absurd hd (Nat.not_lt_zero _)⟩ (fun _ _ _ _ _ => True.intro) ?_ ?_
      · rintro i y σ H2 H3 hi ⟨v4, rfl, s2, hno⟩ ⟨rfl, rfl⟩
        have ek : ((0 : Int) + (i : Nat)) = ((i : Nat) : Int) := by omega
        show gName 4 (V.int ((0 : Int) + (i : Nat))) _ _ _
        rw [ek]
        have A2 := AK.more s2
        refine ⟨_, rfl, x, dx, _, rfl, s2 _ _ hx, bfs_no (by decide +kernel), _, rfl, _, rfl, _, rfl, H0, x, vi, c, os, n, its, r, _, rfl, A2.b, A2.ok, A2.len, A2.oo, A2.f, A2.vi, A2.rn, fun t v H4 ms s4 ht hv ho => ?_⟩
        refine ⟨t, _, _, _, rfl, rfl, SqT.of ht, rfl, _, rfl, _, _, rfl, rfl, _, rfl, ite2 (fun hd => ?_) fun hd => ?_⟩
        · refine ⟨_, rfl, k2 i ?_ _ (s2.trans s4)⟩
          unfold earliestV
          refine find_some (i := i) (y := i) (by rw [List.getElem?_range hi]) hd fun j z hj hz => ?_
          have q := (List.getElem?_eq_some_iff.mp hz).2
          rw [List.getElem_range] at q
          rw [← q]
          exact hno j hj
        · refine ⟨_, rfl, s2.trans s4, fun d hd2 => ?_⟩
          by_cases e : d = i
          · rw [e]
            exact Bool.eq_false_iff.mpr hd
          · exact hno d (by omega)
      · rintro σ H2 ⟨v4, rfl, s2, hno⟩
        refine k1 ?_ _ s2
        unfold earliestV
        refine find_none fun j z hz => ?_
        have q := List.getElem?_eq_some_iff.mp hz
        obtain ⟨q1, q2⟩ := q
        rw [List.getElem_range] at q2
        rw [List.length_range] at q1
        rw [← q2]
        exact hno j q1
    · refine iteE ?_ (kE hk _ s1)
      rw [Bool.not_eq_true', Bool.eq_false_iff]
      intro q
      rw [Bool.and_eq_true, decide_eq_true_eq, decide_eq_true_eq] at q
      exact hk q
/-! ### curve -/
def curveStep (f : Int → Int) (st : List (Nat × Int) × Int) (d : Nat) : List (Nat × Int) × Int := if st.2 < f (d : Nat) then (st.1 ++ [(d, f (d : Nat))], f (d : Nat)) else st
def curveV (f : Int → Int) (m : Nat) : List (Nat × Int) × Int := (List.range m).foldl (curveStep f) ([], 0)
theorem curveV_succ (f : Int → Int) (m : Nat) : curveV f (m + 1) = curveStep f (curveV f m) m := by
  unfold curveV
  rw [List.range_succ, List.foldl_append]
  rfl
theorem curveV_len (f : Int → Int) : ∀ m : Nat, (curveV f m).1.length ≤ m
  | 0 => Nat.le_refl _
  | m + 1 => by
    have q := curveV_len f m
    rw [curveV_succ]
    unfold curveStep
    split
    · rw [List.length_append]
      show (curveV f m).1.length + 1 ≤ m + 1
      omega
    · omega
def pD (p : Nat × Int) : PyData := .tuple [.int (p.1 : Nat), .int p.2]
def spCurve (K : PySem.W.Frag) : Sp := fun vs H Q _ => ∃ (H0 : Hp) (x : Addr) (vi : V) (c : Cat) (os : List Order) (n : Nat) (its : List Str) (r : Str), vs = [.ref x, vi, .str r] ∧ Askd K H0 H x vi c os n its r ∧ (∀ s ∈ its, s ∈ c.its) ∧
  ∀ (v : V) (H' : Hp), Same H H' → Dp K H' v (.tuple ((curveV (moreV c (wishesOf os) its r) 61).1.map pD)) → Q v H'
theorem sc_curve : FnScope ["self", "items", "region", "found", "last", "day", "count"] ["self", "items", "region"] (defScope (bk 9)) := ⟨rfl, rfl, rfl, by decide +kernel, rfl, by decide +kernel, by decide +kernel⟩
theorem ok_curve (T : Tx K mg) (d_need_asked : Ok P w K mg base (L2.CX P w) 3 "need_asked" ["catalog", "items", "region"] (spNeedAsked K)) (d_room_for : OkM P w K mg base CX0 5 (cB K) "room_for" ["self", "items", "region", "by"] (spRoomFor K)) : OkM P w K mg base CX0 7 (cB K) "curve" ["self", "items", "region"] (spCurve K) := by
  have sc := sc_curve
  refine OkM.mk_B (q := "Book.curve") (i := 9) T (by decide +kernel) sc (fun _ _ _ _ _ _ us hl => match us, hl with | [_, _, _], _ => rfl) (fun vs H Q E h => ?_) (fun f cdv A outer s H vs Q E hr h => ?_)
  · obtain ⟨H0, x, vi, c, os, n, its, r, rfl, _⟩ := h
    rfl
  · obtain ⟨H0, x, vi, c, os, n, its, r, rfl, AK, hin, k⟩ := h
    obtain ⟨dx, lp, lr, vc, ys, zs, hx, hlp, hlr, nlr, x0, lp0, lr0, hc, hy, hz, hzr⟩ := AK.b.ex
    refine ⟨_, pss_cons (ps_expr (pe_fn d_need_asked (hr.mono (by decide)) passL (pa_cons (k_pe_fld (K := K) rfl (pv 0) rfl) (pa_cons (pv 1) (pa_cons (pv 2) pa_nil)))))
      (pss_cons (ps_par (i := 3) (j := 4) (by rfl) sc.nd rfl rfl (by decide) rfl rfl (pa_cons (pe_lst pa_nil) (pa_cons (pe_int) pa_nil)) (by rfl))
      (pss_cons (ps_for PassesOwn.never rfl (pi_range1 rfl (T.free _ (by decide +kernel)) (pa_cons (pe_op op_add (pe_ci T (x := "LAST_DAY") (i := 60) (by decide +kernel)) (pe_int)) pa_nil)) (pg_name (i := 5) sc.nd rfl (Or.inl rfl))
        (pss_cons (ps_set (i := 6) sc.nd rfl (Or.inl rfl) (pe_ix (k_ix_tup (K := K) rfl) (pe_mth d_room_for (hr.mono (by decide)) pass0 (pv 0) (pa_cons (pv 1) (pa_cons (pv 2) (pa_cons (pv 5) pa_nil)))) (pe_int) (fun _ _ => rfl)))
        (pss_one (ps_if (pt_cmpR op_gt (pv 6) (pv 4) (nomark _))
          (pss_cons (ps_expr (pe_bm PySem.F.plainAttrs_list PySem.F.slot_list_append PySem.F.type_list_append mt_append (pv 3) (pa_cons (pe_tup (pa_cons (pv 5) (pa_cons (pv 6) pa_nil))) pa_nil)))
          (pss_one (ps_set (i := 4) sc.nd rfl (Or.inl rfl) (pv 6))))
          (pss_nil)))))
      (pss_one (ps_ret (pe_callTy (k_tuple (K := K) rfl) (by rfl) (T.free _ (by decide +kernel)) (by decide +kernel) (pa_cons (pv 3) pa_nil)))))), ?_⟩
    refine ⟨_, rfl, x, _, dx, _, _, rfl, hx, T.bC, T.bN _ (by decide +kernel), bfs_cat, _, rfl, _, rfl, vc, vi, c, its, r, rfl, hc, AK.vi, AK.nm, AK.rn, AK.r, fun _ H1 s1 => ?_, fun hnin => absurd hin hnin⟩
    refine ⟨by show 0 ≤ sizeLine; decide, fun p hp => ⟨_, _, rfl, ?_⟩⟩
    have p0 : H p = none := Same.free s1 hp
    refine ⟨_, _, rfl, rfl, _, rfl, by decide, by decide, ?_⟩
    have e61 : ((60 : Int) + 1).toNat = 61 := rfl
    rw [e61]
    refine for_it (walk_range (lo := 0) (n := 61)) (fun i σ H2 => ∃ (ls : List V) (v5 v6 : Option V), σ = [some (.ref x), some vi, some (.str r), some (.ref p), some (.int (curveV (moreV c (wishesOf os) its r) i).2), v5, v6] ∧ Same H H2 ∧ H2 p = some (.lst ls) ∧ DpAll K H2 ls ((curveV (moreV c (wishesOf os) its r) i).1.map pD))
      ⟨[], _, _, rfl, s1.trans (same_new hp), upd_same, .nil⟩ (fun _ _ _ _ _ => True.intro) ?_ ?_
    · rintro i y σ H2 H3 hi ⟨ls, v5, v6, rfl, s2, hp2, hd2⟩ ⟨rfl, rfl⟩
      have ek : ((0 : Int) + (i : Nat)) = ((i : Nat) : Int) := by omega
      show gName 5 (V.int ((0 : Int) + (i : Nat))) _ _ _
      rw [ek]
      have A2 := AK.more s2
      refine ⟨_, rfl, x, dx, _, rfl, s2 _ _ hx, bfs_no (by decide +kernel), _, rfl, _, rfl, _, rfl, H0, x, vi, c, os, n, its, r, _, rfl, A2.b, A2.ok, A2.len, A2.oo, A2.f, A2.vi, A2.rn, fun t v H4 ms s4 ht hv ho => ?_⟩
      refine ⟨t, _, _, _, rfl, rfl, SqT.of ht, rfl, ?_⟩
      have hl := hd2.length
      rw [List.length_map] at hl
      have hl2 := curveV_len (moreV c (wishesOf os) its r) i
      refine ⟨_, rfl, _, rfl, _, _, rfl, rfl, _, rfl, ite2 (fun hd => ?_) fun hd => ?_⟩
      · have hd := of_decide_eq_true hd
        refine ⟨_, rfl, .inl ⟨rfl, _, SqL.of (s4 _ _ hp2)⟩, _, rfl, _, rfl, by show 2 ≤ sizeLine; decide, fun q hq => ?_⟩
        have s5 := same_new (o := .tup [V.int (i : Nat), V.int (moreV c (wishesOf os) its r (i : Nat))]) hq
        have s45 := s4.trans s5
        refine ⟨p, _, _, rfl, rfl, s45 _ _ hp2, Nat.lt_of_le_of_lt (by omega : ls.length ≤ 100) (by decide), ?_⟩
        have ec : curveV (moreV c (wishesOf os) its r) (i + 1) = ((curveV (moreV c (wishesOf os) its r) i).1 ++ [(i, moreV c (wishesOf os) its r (i : Nat))], moreV c (wishesOf os) its r (i : Nat)) := by
          rw [curveV_succ]
          unfold curveStep
          rw [if_pos hd]
        have hk : ∀ a xs, SqT K _ a xs → SqT K (upd _ p (.lst (ls ++ [V.ref q]))) a xs := fun a xs h => t_updL (s45 _ _ hp2) h
        refine ⟨_, rfl, ls ++ [.ref q], _, _, by rw [ec]; rfl, same_mut (s2.trans s45) p0, upd_same, ?_⟩
        rw [ec, List.map_append]
        exact DpAll.append (dpAll_keep hk (nlAll_map _ _ fun _ _ => rfl) (hd2.same s45)) (.cons (dp_keep hk rfl (.tup (SqT.of upd_same) (.cons (.int _) (.cons (.int _) .nil)))) .nil)
      · have hd : ¬ (curveV (moreV c (wishesOf os) its r) i).2 < moreV c (wishesOf os) its r (i : Nat) := fun q => hd (decide_eq_true q)
        have ec : curveV (moreV c (wishesOf os) its r) (i + 1) = curveV (moreV c (wishesOf os) its r) i := by
          rw [curveV_succ]
          unfold curveStep
          rw [if_neg hd]
        refine ⟨ls, _, _, by rw [ec]; rfl, s2.trans s4, s4 _ _ hp2, ?_⟩
        rw [ec]
        exact hd2.same s4
    · rintro σ H2 ⟨ls, v5, v6, rfl, s2, hp2, hd2⟩
      refine ⟨_, rfl, p, _, rfl, .inl ⟨SqL.of hp2, fun t ht => ?_⟩⟩
      have st := same_new (o := .tup ls) ht
      exact k (.ref t) _ (s2.trans st) (.tup (SqT.of upd_same) (hd2.same st))
end
end KS
set_option Elab.async false
set_option linter.all false
set_option maxRecDepth 100000
set_option maxHeartbeats 8000000
set_option pp.maxSteps 400
/-! The law's draws: _law_taken, _law_pick; _law_is. -/
namespace KS
open PySem PySem.Spec PyProof.Rows L2
section
variable {P : Program} {w : World} {K : PySem.W.Frag} {mg : Str → Option Value} {base : Heap}
/-- the row of draws at a, behind the heap H0 -/
structure RowAt (K : PySem.W.Frag) (S : Addr × List Int) (H0 H : Hp) (a : Addr) : Prop where
  same : Same H0 H
  r0 : H0 a = none
  hs : SqL K H0 S.1 (S.2.map V.int)
  ex : ∃ (i : Nat) (z y : Int), H a = some (.lst [.ref S.1, .int (i : Nat), .int z, .int y]) ∧ 0 ≤ z ∧ z < 2147483647
theorem RowAt.more {S : Addr × List Int} {H0 H H' : Hp} {a : Addr} (h : RowAt K S H0 H a) (e : Same H H') : RowAt K S H0 H' a := by
  obtain ⟨i, z, y, h1, r⟩ := h.ex
  exact ⟨h.same.trans e, h.r0, h.hs, i, z, y, e _ _ h1, r⟩
def spTaken (K : PySem.W.Frag) : Sp := fun vs H Q _ => ∃ (S : Addr × List Int) (H0 : Hp) (a : Addr) (m : Int), vs = [.ref a, .int m] ∧ RowAt K S H0 H a ∧ 1 ≤ m ∧ m ≤ 1000 ∧ ∀ (r : Int) (H' : Hp), 0 ≤ r → r < m → RowAt K S H0 H' a → Q (.int r) H'
theorem sc_taken : FnScope ["_law_row", "_law_many", "_law_found", "_law_cell"] ["_law_row", "_law_many"] (defScope (tp 51)) := ⟨rfl, rfl, rfl, by decide +kernel, rfl, by decide +kernel, by decide +kernel⟩
theorem fmod_in {i m : Int} (h : 1 ≤ m) : 0 ≤ i.fmod m ∧ i.fmod m < m := by
  rw [Int.fmod_eq_emod_of_nonneg _ (by omega)]
  exact ⟨Int.emod_nonneg _ (by omega), Int.emod_lt_of_pos _ (by omega)⟩
theorem ok_taken (T : Tx K mg) : Ok P w K mg base CX0 1 "_law_taken" ["_law_row", "_law_many"] (spTaken K) := by
  have sc := sc_taken
  refine Ok.mk_ (i := 51) T (by decide +kernel) sc (fun _ _ _ _ _ _ us hl => match us, hl with | [_, _], _ => rfl) (fun vs H Q E h => ?_) (fun f cdv A outer s H vs Q E hr h => ?_)
  · obtain ⟨⟨sa, ns⟩, H0, a, m, rfl, _⟩ := h
    rfl
  · obtain ⟨⟨sa, ns⟩, H0, a, m, rfl, R, m1, m2, k⟩ := h
    obtain ⟨i, z, y, ha, z0, z1⟩ := R.ex
    have hs : SqL K H0 sa (ns.map V.int) := R.hs
    have ha : H a = some (.lst [.ref sa, .int (i : Nat), .int z, .int y]) := ha
    refine ⟨_, pss_cons (ps_if (pt_cmpR op_gt (pe_ix (k_ix_list (K := K) rfl) (pv 0) (pe_int) (fun _ _ => rfl)) (pe_int) (nomark _))
        (pss_cons (ps_set (i := 2) sc.nd rfl (Or.inl rfl) (pe_op op_modN (pe_callTy call_int1 (by rfl) (T.free _ (by decide +kernel)) (by decide +kernel) (pa_cons (pe_ix (k_ix_list (K := K) rfl) (pv 0) (pe_int) (fun _ _ => rfl)) pa_nil)) (pv 1)))
        (pss_cons (ps_asg (pe_op op_fdivN (pe_ix (k_ix_list (K := K) rfl) (pv 0) (pe_int) (fun _ _ => rfl)) (pv 1)) (pg_sub (pv 0) (pe_int) set_list))
        (pss_one (ps_ret (pv 2)))))
        (pss_nil))
      (pss_cons (ps_asg (pe_op op_add (pe_ix (k_ix_list (K := K) rfl) (pv 0) (pe_int) (fun _ _ => rfl)) (pe_int)) (pg_sub (pv 0) (pe_int) set_list))
      (pss_cons (ps_if (pt_cmpR op_gt (pe_ix (k_ix_list (K := K) rfl) (pv 0) (pe_int) (fun _ _ => rfl)) (pe_callB (k_len (K := K) rfl) (by rfl) (T.free _ (by decide +kernel)) (by decide +kernel) (pa_cons (pe_ix (k_ix_list (K := K) rfl) (pv 0) (pe_int) (fun _ _ => rfl)) pa_nil)) (nomark _))
        (pss_cons (ps_asg (pe_op op_modN (pe_callTy call_int1 (by rfl) (T.free _ (by decide +kernel)) (by decide +kernel) (pa_cons (pe_op op_add (pe_op op_mul (pe_ix (k_ix_list (K := K) rfl) (pv 0) (pe_int) (fun _ _ => rfl)) (pe_int)) (pe_int)) pa_nil)) (pe_int)) (pg_sub (pv 0) (pe_int) set_list))
        (pss_one (ps_ret (pe_op op_modN (pe_callTy call_int1 (by rfl) (T.free _ (by decide +kernel)) (by decide +kernel) (pa_cons (pe_op op_fdivN (pe_ix (k_ix_list (K := K) rfl) (pv 0) (pe_int) (fun _ _ => rfl)) (pe_int)) pa_nil)) (pv 1)))))
        (pss_nil))
      (pss_cons (ps_set (i := 3) sc.nd rfl (Or.inl rfl) (pe_ix (k_ix_list (K := K) rfl) (pe_ix (k_ix_list (K := K) rfl) (pv 0) (pe_int) (fun _ _ => rfl)) (pe_op op_sub (pe_ix (k_ix_list (K := K) rfl) (pv 0) (pe_int) (fun _ _ => rfl)) (pe_int)) (fun _ _ => rfl)))
      (pss_cons (ps_asg (pe_op op_modN (pe_callTy call_int1 (by rfl) (T.free _ (by decide +kernel)) (by decide +kernel) (pa_cons (pe_op op_add (pe_op op_add (pe_op op_mul (pe_ix (k_ix_list (K := K) rfl) (pv 0) (pe_int) (fun _ _ => rfl)) (pe_int)) (pv 3)) (pe_int)) pa_nil)) (pe_int)) (pg_sub (pv 0) (pe_int) set_list))
      (pss_cons (ps_if (pt_cmpR op_ge (pv 3) (pe_op op_pow (pe_int) (pe_int)) (nomark _))
        (pss_one (ps_asg (pe_op op_fdivN (pv 3) (pv 1)) (pg_sub (pv 0) (pe_int) set_list)))
        (pss_nil))
      (pss_one (ps_ret (pe_op op_modN (pe_callTy call_int1 (by rfl) (T.free _ (by decide +kernel)) (by decide +kernel) (pa_cons (pv 3) pa_nil)) (pv 1))))))))), ?_⟩
    -- what stands behind a store
    have put : ∀ (H1 : Hp) (i' : Nat) (z' y' : Int), Same H0 H1 → 0 ≤ z' → z' < 2147483647 → RowAt K (sa, ns) H0 (upd H1 a (.lst [.ref sa, .int (i' : Nat), .int z', .int y'])) a := fun H1 i' z' y' s1 g0 g1 => ⟨same_mut s1 R.r0, R.r0, hs, i', z', y', upd_same, g0, g1⟩
    refine ⟨_, rfl, a, _, _, _, rfl, rfl, SqL.of ha, rfl, _, _, rfl, rfl, _, rfl, ite2 (fun hpos => ?_) fun hnp => ?_⟩
    · refine ⟨_, rfl, a, _, _, _, rfl, rfl, SqL.of ha, rfl, .inl ⟨_, rfl, _, rfl, _, _, rfl, rfl, by omega, ?_⟩⟩
      refine ⟨_, rfl, a, _, _, _, rfl, rfl, SqL.of ha, rfl, _, rfl, _, _, rfl, rfl, ⟨by omega, by omega⟩, _, rfl, a, _, _, 3, rfl, rfl, ha, rfl, ?_⟩
      refine ⟨_, rfl, k _ _ (fmod_in m1).1 (fmod_in m1).2 ?_⟩
      exact put H i z _ R.same z0 z1
    · refine ⟨_, rfl, a, _, _, _, rfl, rfl, SqL.of ha, rfl, _, _, rfl, rfl, _, rfl, a, _, _, 1, rfl, rfl, ha, rfl, ?_⟩
      have ei : ((i : Nat) : Int) + 1 = ((i + 1 : Nat) : Int) := by omega
      have ha1 : upd H a (.lst ([V.ref sa, .int (i : Nat), .int z, .int y].set 1 (.int (((i : Nat) : Int) + 1)))) a = some (.lst [V.ref sa, .int ((i + 1 : Nat) : Int), .int z, .int y]) := by
        rw [upd_same, ei]
        rfl
      have hsL : SqL K (upd H a (.lst ([V.ref sa, .int (i : Nat), .int z, .int y].set 1 (.int (((i : Nat) : Int) + 1))))) sa (ns.map V.int) := (same_mut R.same R.r0).seq hs
      refine ⟨_, rfl, a, _, _, _, rfl, rfl, SqL.of ha1, rfl, _, rfl, a, _, _, _, rfl, rfl, SqL.of ha1, rfl, sa, _, rfl, .inl hsL, _, _, rfl, rfl, _, rfl, ite2 (fun hgt => ?_) fun hle => ?_⟩
      · refine ⟨_, rfl, a, _, _, _, rfl, rfl, SqL.of ha1, rfl, _, _, rfl, rfl, .inl ⟨by omega, by omega⟩, _, _, rfl, rfl, .inl ⟨_, rfl, _, _, rfl, rfl, (by show (2147483647 : Int) ≠ 0; decide), _, rfl, a, _, _, 2, rfl, rfl, ha1, rfl, ?_⟩⟩
        have hz' := fmod_in (i := z * 48271 + 11) (m := 2147483647) (by decide)
        have ha2 : upd (upd H a (.lst ([V.ref sa, .int (i : Nat), .int z, .int y].set 1 (.int (((i : Nat) : Int) + 1))))) a (.lst ([V.ref sa, .int ((i + 1 : Nat) : Int), .int z, .int y].set 2 (.int ((z * 48271 + 11).fmod 2147483647)))) a = some (.lst [V.ref sa, .int ((i + 1 : Nat) : Int), .int ((z * 48271 + 11).fmod 2147483647), .int y]) := by
          rw [upd_same]
          rfl
        refine ⟨_, rfl, a, _, _, _, rfl, rfl, SqL.of ha2, rfl, _, _, rfl, rfl, ⟨by decide, by decide⟩, .inl ⟨_, rfl, _, rfl, _, _, rfl, rfl, by omega, ?_⟩⟩
        refine k _ _ (fmod_in m1).1 (fmod_in m1).2 ?_
        exact put _ (i + 1) _ y (same_mut R.same R.r0) hz'.1 hz'.2
      · have hle : i + 1 ≤ ns.length := by
          have q : ¬ ((((ns.map V.int).length : Nat) : Int) < ((i + 1 : Nat) : Int)) := fun q => hle (decide_eq_true q)
          rw [List.length_map] at q
          omega
        obtain ⟨cc, hcc⟩ : ∃ cc, ns[i]? = some cc := ⟨ns[i], List.getElem?_eq_getElem (by omega)⟩
        refine ⟨_, rfl, a, _, _, _, rfl, rfl, SqL.of ha1, rfl, _, rfl, a, _, _, _, rfl, rfl, SqL.of ha1, rfl, _, _, rfl, rfl, sa, _, _, .int cc, rfl, rfl, hsL, at_of (j := i) (by omega) (by rw [List.getElem?_map, hcc]; rfl), ?_⟩
        refine ⟨_, rfl, a, _, _, _, rfl, rfl, SqL.of ha1, rfl, _, _, rfl, rfl, .inl ⟨by omega, by omega⟩, _, rfl, _, _, rfl, rfl, _, _, rfl, rfl, .inl ⟨_, rfl, _, _, rfl, rfl, (by show (2147483647 : Int) ≠ 0; decide), _, rfl, a, _, _, 2, rfl, rfl, ha1, rfl, ?_⟩⟩
        have hz' := fmod_in (i := z * 48271 + cc + 11) (m := 2147483647) (by decide)
        have ha2 : upd (upd H a (.lst ([V.ref sa, .int (i : Nat), .int z, .int y].set 1 (.int (((i : Nat) : Int) + 1))))) a (.lst ([V.ref sa, .int ((i + 1 : Nat) : Int), .int z, .int y].set 2 (.int ((z * 48271 + cc + 11).fmod 2147483647)))) a = some (.lst [V.ref sa, .int ((i + 1 : Nat) : Int), .int ((z * 48271 + cc + 11).fmod 2147483647), .int y]) := by
          rw [upd_same]
          rfl
        refine ⟨_, rfl, _, _, rfl, rfl, ⟨by decide, by decide, by decide⟩, _, _, rfl, rfl, _, rfl, ite2 (fun hbig => ?_) fun hsm => ?_⟩
        · refine ⟨_, rfl, _, rfl, _, _, rfl, rfl, ⟨by omega, by omega⟩, _, rfl, a, _, _, 3, rfl, rfl, ha2, rfl, ?_⟩
          refine ⟨_, rfl, .inl ⟨_, rfl, _, rfl, _, _, rfl, rfl, by omega, k _ _ (fmod_in m1).1 (fmod_in m1).2 ?_⟩⟩
          exact put _ (i + 1) _ _ (same_mut (same_mut R.same R.r0) R.r0) hz'.1 hz'.2
        · refine ⟨_, rfl, .inl ⟨_, rfl, _, rfl, _, _, rfl, rfl, by omega, k _ _ (fmod_in m1).1 (fmod_in m1).2 ?_⟩⟩
          exact put _ (i + 1) _ y (same_mut R.same R.r0) hz'.1 hz'.2
/-- the heap H0, with what stands at b in H too -/
def addH (H0 H : Hp) (b : Addr) : Hp := fun q => if q = b then H b else H0 q
theorem addH_same {H0 H : Hp} {b : Addr} (s : Same H0 H) : Same (addH H0 H b) H := fun q o e => by
  unfold addH at e
  by_cases h : q = b
  · rw [if_pos h] at e
    rw [h]
    exact e
  · rw [if_neg h] at e
    exact s q o e
theorem same_addH {H0 H : Hp} {b : Addr} (s : Same H0 H) : Same H0 (addH H0 H b) := fun q o e => by
  unfold addH
  by_cases h : q = b
  · rw [if_pos h, ← h]
    exact s q o e
  · rw [if_neg h]
    exact e
theorem addH_at {H0 H : Hp} {b : Addr} : addH H0 H b b = H b := if_pos rfl
theorem addH_none {H0 H : Hp} {a b : Addr} (n : H0 a = none) (h : a ≠ b) : addH H0 H b a = none := by
  unfold addH
  rw [if_neg h]
  exact n
theorem addH_L {H0 H : Hp} {b : Addr} {xs : List V} (h : SqL K H b xs) : SqL K (addH H0 H b) b xs := by
  rcases h with (h | ⟨o, h⟩) | h
  · exact .inl (.inl (addH_at.trans h))
  · exact .inl (.inr ⟨o, addH_at.trans h⟩)
  · exact .inr h
theorem RowAt.add {S : Addr × List Int} {H0 H : Hp} {a b : Addr} (R : RowAt K S H0 H a) (h : a ≠ b) : RowAt K S (addH H0 H b) H a :=
  ⟨addH_same R.same, addH_none R.r0 h, (same_addH R.same).seq R.hs, R.ex⟩
theorem RowAt.back {S : Addr × List Int} {H0 H1 H : Hp} {a : Addr} (R : RowAt K S H1 H a) (s : Same H0 H1) (h0 : H0 a = none) (hs : SqL K H0 S.1 (S.2.map V.int)) : RowAt K S H0 H a := ⟨s.trans R.same, h0, hs, R.ex⟩
/-! ### _law_pick -/
def spPick (K : PySem.W.Frag) : Sp := fun vs H Q _ => ∃ (S : Addr × List Int) (H0 : Hp) (a b : Addr) (xs : List V), vs = [.ref a, .ref b] ∧ RowAt K S H0 H a ∧ a ≠ b ∧ SqL K H b xs ∧ 1 ≤ xs.length ∧ xs.length ≤ 100 ∧ ∀ (i : Nat) (x : V) (H' : Hp), xs[i]? = some x → RowAt K S H0 H' a → RowAt K S (addH H0 H b) H' a → Q x H'
theorem sc_pick : FnScope ["_law_row", "_law_things"] ["_law_row", "_law_things"] (defScope (tp 52)) := ⟨rfl, rfl, rfl, by decide +kernel, rfl, by decide +kernel, by decide +kernel⟩
theorem ok_pick (T : Tx K mg) (d_law_taken : Ok P w K mg base CX0 1 "_law_taken" ["_law_row", "_law_many"] (spTaken K)) : Ok P w K mg base CX0 2 "_law_pick" ["_law_row", "_law_things"] (spPick K) := by
  have sc := sc_pick
  refine Ok.mk_ (i := 52) T (by decide +kernel) sc (fun _ _ _ _ _ _ us hl => match us, hl with | [_, _], _ => rfl) (fun vs H Q E h => ?_) (fun f cdv A outer s H vs Q E hr h => ?_)
  · obtain ⟨S, H0, a, b, xs, rfl, _⟩ := h
    rfl
  · obtain ⟨S, H0, a, b, xs, rfl, R, hab, hb, l1, l2, k⟩ := h
    refine ⟨_, pss_one (ps_ret (pe_ix (k_ix_list (K := K) rfl) (pv 1) (pe_fn d_law_taken (hr.mono (by decide)) pass0 (pa_cons (pv 0) (pa_cons (pe_callB (k_len (K := K) rfl) (by rfl) (T.free _ (by decide +kernel)) (by decide +kernel) (pa_cons (pv 1) pa_nil)) pa_nil))) (fun _ _ => rfl))), ?_⟩
    refine ⟨_, rfl, _, rfl, _, rfl, b, _, rfl, .inl hb, S, addH H0 H b, a, _, rfl, R.add hab, by omega, by omega, fun r H1 r0 r1 R1 => ?_⟩
    have hr : r.toNat < xs.length := by omega
    refine ⟨b, xs, r, xs[r.toNat], rfl, rfl, R1.same.seq (addH_L hb), at_of (j := r.toNat) (by omega) (List.getElem?_eq_getElem hr), ?_⟩
    exact k r.toNat _ H1 (List.getElem?_eq_getElem hr) (R1.back (same_addH R.same) R.r0 R.hs) R1
/-! ### _law_is -/
def spIs : Sp := fun vs H Q _ => ∃ a b : Bool, vs = [.bl a, .bl b] ∧ Q (.bl (decide (a = b))) H
theorem sc_is : FnScope ["_law_found", "_law_due"] ["_law_found", "_law_due"] (defScope (tp 54)) := ⟨rfl, rfl, rfl, by decide +kernel, rfl, by decide +kernel, by decide +kernel⟩
theorem ok_is (T : Tx K mg) : Ok P w K mg base CX0 1 "_law_is" ["_law_found", "_law_due"] spIs := by
  have sc := sc_is
  refine Ok.mk_ (i := 54) T (by decide +kernel) sc (fun _ _ _ _ _ _ us hl => match us, hl with | [_, _], _ => rfl) (fun vs H Q E h => ?_) (fun f cdv A outer s H vs Q E hr h => ?_)
  · obtain ⟨a, b, rfl, _⟩ := h
    rfl
  · obtain ⟨a, b, rfl, k⟩ := h
    refine ⟨_, pss_one (ps_ret (pe_and (pe_callB (k_isi (K := K) rfl) (by rfl) (T.free _ (by decide +kernel)) (by decide +kernel) (pa_cons (pv 0) (pa_cons (pe_bltn (by rfl) (T.free _ (by decide +kernel)) (by decide +kernel) (v := .ty "bool") rfl) pa_nil))) (pe_one (pe_cmpR op_eq (pv 0) (pv 1) (nomark _))))), ?_⟩
    refine ⟨_, rfl, _, _, _, _, true, rfl, .ty _, .base (.bl _), kit_ty (by decide +kernel), _, rfl, iteT ⟨_, rfl, _, rfl, rfl, ?_⟩⟩
    have e : decide (V.bl a = V.bl b) = decide (a = b) := by
      by_cases q : a = b
      · rw [decide_eq_true q, decide_eq_true (by rw [q])]
      · rw [decide_eq_false q, decide_eq_false fun z => q (V.bl.inj z)]
    rw [e]
    exact k
end
end KS
set_option Elab.async false
set_option linter.all false
set_option maxRecDepth 100000
set_option maxHeartbeats 8000000
set_option pp.maxSteps 400
/-! Steps of the row of draws; the law's catalog. -/
namespace KS
open PySem PySem.Spec PyProof.Rows L2
section
variable {P : Program} {w : World} {K : PySem.W.Frag} {mg : Str → Option Value} {base : Heap}
def hid (H : Hp) (a : Addr) : Hp := fun q => if q = a then none else H q
theorem hid_at {H : Hp} {a : Addr} : hid H a a = none := if_pos rfl
theorem hid_ne {H : Hp} {a q : Addr} (h : q ≠ a) : hid H a q = H q := if_neg h
theorem hid_same {H : Hp} {a : Addr} : Same (hid H a) H := fun q o e => by
  by_cases h : q = a
  · rw [h, hid_at] at e
    cases e
  · rw [hid_ne h] at e
    exact e
theorem hid_mono {H H' : Hp} {a : Addr} (s : Same (hid H a) H') : Same (hid H a) (hid H' a) := fun q o e => by
  by_cases h : q = a
  · rw [h, hid_at] at e
    cases e
  · rw [hid_ne h]
    exact s q o e
/-- the row of draws stands at a -/
structure Row (K : PySem.W.Frag) (S : Addr × List Int) (a : Addr) (H : Hp) : Prop where
  hs : SqL K (hid H a) S.1 (S.2.map V.int)
  ex : ∃ (i : Nat) (z y : Int), H a = some (.lst [.ref S.1, .int (i : Nat), .int z, .int y]) ∧ 0 ≤ z ∧ z < 2147483647
/-- all but the row is kept -/
structure Stp (K : PySem.W.Frag) (S : Addr × List Int) (a : Addr) (H H' : Hp) : Prop where
  r0 : Row K S a H
  s : Same (hid H a) H'
  r1 : Row K S a H'
theorem Row.at_ {S : Addr × List Int} {a : Addr} {H : Hp} (h : Row K S a H) : RowAt K S (hid H a) H a := ⟨hid_same, hid_at, h.hs, h.ex⟩
theorem Row.more {S : Addr × List Int} {a : Addr} {H H' : Hp} (h : Row K S a H) (e : Same H H') : Stp K S a H H' := by
  have s : Same (hid H a) H' := hid_same.trans e
  obtain ⟨i, z, y, h1, r⟩ := h.ex
  exact ⟨h, s, (hid_mono s).seq h.hs, i, z, y, e _ _ h1, r⟩
theorem Row.stp {S : Addr × List Int} {a : Addr} {H H' : Hp} (h : Row K S a H) (s : Same (hid H a) H') (e : H' a = H a) : Stp K S a H H' := by
  obtain ⟨i, z, y, h1, r⟩ := h.ex
  exact ⟨h, s, (hid_mono s).seq h.hs, i, z, y, e.trans h1, r⟩
theorem Row.to {S : Addr × List Int} {a : Addr} {H H' : Hp} (h : Row K S a H) (r : RowAt K S (hid H a) H' a) : Stp K S a H H' :=
  ⟨h, r.same, (hid_mono r.same).seq h.hs, r.ex⟩
theorem Stp.refl {S : Addr × List Int} {a : Addr} {H : Hp} (h : Row K S a H) : Stp K S a H H := h.more (Same.refl _)
theorem Stp.trans {S : Addr × List Int} {a : Addr} {H H1 H2 : Hp} (h : Stp K S a H H1) (q : Stp K S a H1 H2) : Stp K S a H H2 := ⟨h.r0, (hid_mono h.s).trans q.s, q.r1⟩
theorem Stp.at_ {S : Addr × List Int} {a q : Addr} {H H' : Hp} {o : HO} (h : Stp K S a H H') (n : q ≠ a) (e : H q = some o) : H' q = some o := h.s q o (by rw [hid_ne n]; exact e)
theorem Row.isL {S : Addr × List Int} {a : Addr} {H : Hp} (h : Row K S a H) : ∃ l, H a = some (.lst l) := let ⟨_, _, _, h1, _⟩ := h.ex; ⟨_, h1⟩
theorem Row.t_hid {S : Addr × List Int} {a : Addr} {H : Hp} (h : Row K S a H) {t : Addr} {xs : List V} (q : SqT K H t xs) : SqT K (hid H a) t xs := by
  obtain ⟨l, hl⟩ := h.isL
  have n : ∀ (o : HO), H t = some o → (∀ l, o ≠ .lst l) → hid H a t = some o := fun o e k => by
    rw [hid_ne]
    · exact e
    · rintro rfl
      exact k l (Option.some.inj (e.symm.trans hl))
  rcases q with (q | ⟨o, q⟩) | q
  · exact .inl (.inl (n _ q fun _ e => by cases e))
  · exact .inl (.inr ⟨o, n _ q fun _ e => by cases e⟩)
  · exact .inr q
theorem Stp.t {S : Addr × List Int} {a t : Addr} {H H' : Hp} {xs : List V} (h : Stp K S a H H') (q : SqT K H t xs) : SqT K H' t xs := same_t h.s (h.r0.t_hid q)
theorem Stp.dp {S : Addr × List Int} {a : Addr} {H H' : Hp} {d : PyData} {v : V} (h : Stp K S a H H') (n : nl d = true) (q : Dp K H v d) : Dp K H' v d := dp_keep (fun _ _ => h.t) n q
theorem Stp.dpA {S : Addr × List Int} {a : Addr} {H H' : Hp} {ds : List PyData} {vs : List V} (h : Stp K S a H H') (n : nlAll ds = true) (q : DpAll K H vs ds) : DpAll K H' vs ds := dpAll_keep (fun _ _ => h.t) n q
theorem Stp.new {S : Addr × List Int} {a q : Addr} {H H' : Hp} (h : Stp K S a H H') (e : H' q = none) : q ≠ a ∧ H q = none := by
  have n : q ≠ a := by
    rintro rfl
    obtain ⟨l, hl⟩ := h.r1.isL
    rw [e] at hl
    cases hl
  refine ⟨n, ?_⟩
  have := Same.free h.s e
  rw [hid_ne n] at this
  exact this
/-- a change at b, not in H -/
theorem Stp.put {S : Addr × List Int} {a b : Addr} {H H' : Hp} {o : HO} (h : Stp K S a H H') (n : b ≠ a) (e : H b = none) : Stp K S a H (upd H' b o) := by
  have s : Same (hid H a) (upd H' b o) := same_mut h.s (by rw [hid_ne n]; exact e)
  obtain ⟨i, z, y, h1, r⟩ := h.r1.ex
  exact ⟨h.r0, s, (hid_mono s).seq h.r0.hs, i, z, y, by rw [upd_ne n.symm]; exact h1, r⟩
theorem Stp.add {S : Addr × List Int} {a : Addr} {H H' H'' : Hp} (h : Stp K S a H H') (e : Same H' H'') : Stp K S a H H'' := h.trans (h.r1.more e)
/-! ### the draws, again -/
def spTk (K : PySem.W.Frag) : Sp := fun vs H Q _ => ∃ (S : Addr × List Int) (a : Addr) (m : Int), vs = [.ref a, .int m] ∧ Row K S a H ∧ 1 ≤ m ∧ m ≤ 1000 ∧ ∀ (r : Int) (H' : Hp), 0 ≤ r → r < m → Stp K S a H H' → Q (.int r) H'
theorem ok_tk (D : Ok P w K mg base CX0 1 "_law_taken" ["_law_row", "_law_many"] (spTaken K)) : Ok P w K mg base CX0 1 "_law_taken" ["_law_row", "_law_many"] (spTk K) :=
  D.imp fun vs H Q E h => by
    obtain ⟨S, a, m, e, R, m1, m2, k⟩ := h
    exact ⟨S, hid H a, a, m, e, R.at_, m1, m2, fun r H' h0 h1 h2 => k r H' h0 h1 (R.to h2)⟩
def spPk (K : PySem.W.Frag) : Sp := fun vs H Q _ => ∃ (S : Addr × List Int) (a b : Addr) (xs : List V), vs = [.ref a, .ref b] ∧ Row K S a H ∧ a ≠ b ∧ SqL K H b xs ∧ 1 ≤ xs.length ∧ xs.length ≤ 100 ∧ ∀ (i : Nat) (x : V) (H' : Hp), xs[i]? = some x → Stp K S a H H' → Q x H'
theorem ok_pk (D : Ok P w K mg base CX0 2 "_law_pick" ["_law_row", "_law_things"] (spPick K)) : Ok P w K mg base CX0 2 "_law_pick" ["_law_row", "_law_things"] (spPk K) :=
  D.imp fun vs H Q E h => by
    obtain ⟨S, a, b, xs, e, R, n, hb, m1, m2, k⟩ := h
    exact ⟨S, hid H a, a, b, xs, e, R.at_, n, hb, m1, m2, fun i x H' h0 h1 _ => k i x H' h0 (R.to h1)⟩
end
end KS
set_option Elab.async false
set_option linter.all false
set_option maxRecDepth 100000
set_option maxHeartbeats 8000000
set_option pp.maxSteps 400
/-! The law's catalog. -/
namespace KS
open PySem PySem.Spec PyProof.Rows L2
section
variable {P : Program} {w : World} {K : PySem.W.Frag} {mg : Str → Option Value} {base : Heap}
theorem slA {l : List Str} {t : Addr} {H : Hp} {Q : VK} {i : Int} (n : Nat) (e : i = (n : Int)) (hS : SqT K H t (l.map V.str)) (k : ∀ p H', Same H H' → SqT K H' p ((l.take n).map V.str) → Q (.ref p) H') : rSlA K (.ref t) none (some i) H Q := by
  subst e
  refine ⟨t, _, rfl, hS, fun h => ?_, fun _ p hp => ?_⟩
  · have h2 := h.2
    rw [HT.sIx_nat, List.length_map] at h2
    refine k t H (Same.refl _) ?_
    rw [List.take_of_length_le (by omega)]
    exact hS
  · refine k p _ (same_new hp) ?_
    rw [cut_take, ← List.map_take]
    exact SqT.of upd_same
def HSES : List Str := ["east", "west", "hill"]
def RGS : List Str := ["ra", "rb"]
def ITS : List Str := ["tea", "pot", "cup"]
def prs (hs rs : List Str) : List (Str × Str) := hs.flatMap fun h => rs.map fun r => (h, r)
theorem prs_length (hs rs : List Str) : (prs hs rs).length = hs.length * rs.length := by
  unfold prs
  induction hs with
  | nil => simp
  | cons h t ih => rw [List.flatMap_cons, List.length_append, ih, List.length_map, List.length_cons, Nat.succ_mul, Nat.add_comm]
def nmS (j : Nat) : Str := Str.ofString "s" ++ Str.ofString (toString ((j : Nat) : Int))
theorem hs_ok : ∀ n, n < 3 → namesOk (HSES.take (1 + n)) 5 := by
  unfold namesOk
  decide +kernel
theorem rs_ok : ∀ n, n < 2 → namesOk (RGS.take (1 + n)) 5 := by
  unfold namesOk
  decide +kernel
theorem its_ok : ∀ n, n < 3 → namesOk (ITS.take (1 + n)) 5 := by
  unfold namesOk
  decide +kernel
theorem prs_nd : ∀ n, n < 3 → ∀ m, m < 2 → (prs (HSES.take (1 + n)) (RGS.take (1 + m))).Nodup := by decide +kernel
theorem prs_len : ∀ n, n < 3 → ∀ m, m < 2 → (prs (HSES.take (1 + n)) (RGS.take (1 + m))).length ≤ 6 := by decide +kernel
theorem lg_nat {i : Nat} (h : i < 64) : ((i : Nat) : Int).natAbs.log2 < 1920 := by
  rw [Int.natAbs_natCast]
  exact Nat.lt_of_le_of_lt (Nat.log2_le_self _) (by omega)
theorem nm_len : ∀ j, j < 5 → ("s" : Str).length + (toString ((j : Nat) : Int) : Str).length ≤ sizeLine := by decide +kernel
theorem nmS_ok : ∀ j, j < 5 → nameOk (nmS j) = true := by decide +kernel
theorem nmS_nd : ∀ m, m < 6 → ((List.range m).map nmS).Nodup := by decide +kernel
/-- what the law's catalogs are -/
structure LawCat (c : Cat) : Prop where
  ok : c.Ok
  hi : ∀ l ∈ c.lanes, l.hi ≤ 4
  day : ∀ s ∈ c.sups, s.day ≤ 5
  sn : c.sups.length ≤ 5
  il : c.its.length ≤ 3
  rl : c.rs.length ≤ 2
  its : ∀ s ∈ c.its, s ∈ ITS
/-- what stands while a catalog is drawn -/
structure CW (K : PySem.W.Frag) (S : Addr × List Int) (a ph pr pi lp sp : Addr) (hs rs its : List Str) (H H1 : Hp) (ls : List Lane) (ss : List Sup) : Prop where
  st : Stp K S a H H1
  ph : SqT K H1 ph (hs.map V.str)
  pr : SqT K H1 pr (rs.map V.str)
  pi : SqT K H1 pi (its.map V.str)
  la : lp ≠ a
  sa : sp ≠ a
  l0 : H lp = none
  s0 : H sp = none
  n : lp ≠ sp
  l : ∃ xl, H1 lp = some (.lst xl) ∧ DpAll K H1 xl (ls.map Lane.d)
  s : ∃ xs, H1 sp = some (.lst xs) ∧ DpAll K H1 xs (ss.map Sup.d)
section
variable {S : Addr × List Int} {a ph pr pi lp sp : Addr} {hs rs its : List Str} {H H1 H2 : Hp} {ls : List Lane} {ss : List Sup}
theorem lanes_nl (ls : List Lane) : nlAll (ls.map Lane.d) = true := nlAll_map _ _ fun _ _ => rfl
theorem sups_nl (ss : List Sup) : nlAll (ss.map Sup.d) = true := nlAll_map _ _ fun _ _ => rfl
theorem CW.step (h : CW K S a ph pr pi lp sp hs rs its H H1 ls ss) (q : Stp K S a H1 H2) : CW K S a ph pr pi lp sp hs rs its H H2 ls ss := by
  obtain ⟨xl, l1, l2⟩ := h.l
  obtain ⟨xs, s1, s2⟩ := h.s
  exact ⟨h.st.trans q, q.t h.ph, q.t h.pr, q.t h.pi, h.la, h.sa, h.l0, h.s0, h.n, ⟨xl, q.at_ h.la l1, q.dpA (lanes_nl _) l2⟩, ⟨xs, q.at_ h.sa s1, q.dpA (sups_nl _) s2⟩⟩
theorem CW.more (h : CW K S a ph pr pi lp sp hs rs its H H1 ls ss) (q : Same H1 H2) : CW K S a ph pr pi lp sp hs rs its H H2 ls ss := h.step (h.st.r1.more q)
theorem CW.addL {xl : List V} {v : V} {l : Lane} (h : CW K S a ph pr pi lp sp hs rs its H H1 ls ss) (e : H1 lp = some (.lst xl)) (hv : Dp K H1 v l.d) : CW K S a ph pr pi lp sp hs rs its H (upd H1 lp (.lst (xl ++ [v]))) (ls ++ [l]) ss := by
  obtain ⟨xl', l1, l2⟩ := h.l
  obtain ⟨xs, s1, s2⟩ := h.s
  cases l1.symm.trans e
  have ht : ∀ b zs, SqT K H1 b zs → SqT K (upd H1 lp (.lst (xl ++ [v]))) b zs := fun b zs hz => t_updL l1 hz
  refine ⟨h.st.put h.la h.l0, ht _ _ h.ph, ht _ _ h.pr, ht _ _ h.pi, h.la, h.sa, h.l0, h.s0, h.n, ⟨_, upd_same, ?_⟩, ⟨xs, by rw [upd_ne h.n.symm]; exact s1, dpAll_keep ht (sups_nl _) s2⟩⟩
  rw [List.map_append]
  exact DpAll.append (dpAll_keep ht (lanes_nl _) l2) (.cons (dp_keep ht rfl hv) .nil)
theorem CW.addS {xs : List V} {v : V} {x : Sup} (h : CW K S a ph pr pi lp sp hs rs its H H1 ls ss) (e : H1 sp = some (.lst xs)) (hv : Dp K H1 v x.d) : CW K S a ph pr pi lp sp hs rs its H (upd H1 sp (.lst (xs ++ [v]))) ls (ss ++ [x]) := by
  obtain ⟨xl, l1, l2⟩ := h.l
  obtain ⟨xs', s1, s2⟩ := h.s
  cases s1.symm.trans e
  have ht : ∀ b zs, SqT K H1 b zs → SqT K (upd H1 sp (.lst (xs ++ [v]))) b zs := fun b zs hz => t_updL s1 hz
  refine ⟨h.st.put h.sa h.s0, ht _ _ h.ph, ht _ _ h.pr, ht _ _ h.pi, h.la, h.sa, h.l0, h.s0, h.n, ⟨xl, by rw [upd_ne h.n]; exact l1, dpAll_keep ht (lanes_nl _) l2⟩, ⟨_, upd_same, ?_⟩⟩
  rw [List.map_append]
  exact DpAll.append (dpAll_keep ht (sups_nl _) s2) (.cons (dp_keep ht rfl hv) .nil)
end
structure LaneG (hs rs : List Str) (l : Lane) : Prop where
  h : l.h ∈ hs
  r : l.r ∈ rs
  lo : 0 ≤ l.lo ∧ l.lo ≤ l.hi ∧ l.hi ≤ 4
  pr : 0 ≤ l.pr ∧ l.pr ≤ 5
structure SupG (hs its : List Str) (s : Sup) : Prop where
  h : s.h ∈ hs
  i : s.it ∈ its
  day : 0 ≤ s.day ∧ s.day ≤ 5
  cnt : 0 ≤ s.cnt ∧ s.cnt ≤ 5
theorem lawcat_of {n m k : Nat} {ls : List Lane} {ss : List Sup} (hn : n < 3) (hm : m < 2) (hk : k < 3) (hl : ∀ l ∈ ls, LaneG (HSES.take (1 + n)) (RGS.take (1 + m)) l) (hsub : (ls.map fun l => (l.h, l.r)).Sublist (prs (HSES.take (1 + n)) (RGS.take (1 + m))))
    (hss : ∀ s ∈ ss, SupG (HSES.take (1 + n)) (ITS.take (1 + k)) s) (hnm : ss.map Sup.n = (List.range ss.length).map nmS) (h5 : ss.length ≤ 5) : LawCat ⟨HSES.take (1 + n), RGS.take (1 + m), ITS.take (1 + k), ls, ss⟩ := by
  have A := hs_ok n hn
  have B := rs_ok m hm
  have C := its_ok k hk
  have q6 := prs_len n hn m hm
  have ql := hsub.length_le
  rw [List.length_map] at ql
  refine ⟨⟨A, B, C, by show ls.length ≤ 20; omega, by show ss.length ≤ 14; omega, fun l h => ?_, fun s h => ?_, List.Nodup.sublist hsub (prs_nd n hn m hm), ?_⟩, fun l h => (hl l h).lo.2.2, fun s h => (hss s h).day.2, h5, ?_, ?_, fun s h => List.mem_of_mem_take h⟩
  · have q := hl l h
    exact ⟨A.2.2.1 _ q.h, B.2.2.1 _ q.r, q.h, q.r, ⟨q.lo.1, q.lo.2.1⟩, Int.le_trans q.lo.2.2 (by decide), ⟨q.pr.1, Int.le_trans q.pr.2 (by decide)⟩⟩
  · have q := hss s h
    have e : s.n ∈ ss.map Sup.n := List.mem_map_of_mem h
    rw [hnm] at e
    obtain ⟨j, hj, e⟩ := List.mem_map.mp e
    rw [List.mem_range] at hj
    exact ⟨by rw [← e]; exact nmS_ok j (by omega), A.2.2.1 _ q.h, C.2.2.1 _ q.i, q.h, q.i, ⟨q.day.1, Int.le_trans q.day.2 (by decide)⟩, ⟨q.cnt.1, Int.le_trans q.cnt.2 (by decide)⟩⟩
  · show (ss.map Sup.n).Nodup
    rw [hnm]
    exact nmS_nd _ (by omega)
  · show (ITS.take (1 + k)).length ≤ 3
    rw [List.length_take]
    exact Nat.min_le_right _ _
  · show (RGS.take (1 + m)).length ≤ 2
    rw [List.length_take]
    exact Nat.min_le_right _ _
def spLCat (K : PySem.W.Frag) : Sp := fun vs H Q _ => ∃ (S : Addr × List Int) (a : Addr), vs = [.ref a] ∧ Row K S a H ∧ ∀ (v : V) (c : Cat) (H' : Hp), LawCat c → Stp K S a H H' → Dp K H' v c.d → Q v H'
theorem sc_lcat : FnScope ["_law_row", "_law_houses", "_law_regions", "_law_items", "_law_lanes", "_law_supplies", "_law_house", "_law_region", "_law_least", "_law_at", "_law_item"] ["_law_row"] (defScope (tp 55)) := ⟨rfl, rfl, rfl, by decide +kernel, rfl, by decide +kernel, by decide +kernel⟩
theorem ok_lcat (T : Tx K mg) (d_law_taken : Ok P w K mg base CX0 1 "_law_taken" ["_law_row", "_law_many"] (spTk K)) (d_law_pick : Ok P w K mg base CX0 2 "_law_pick" ["_law_row", "_law_things"] (spPk K)) : Ok P w K mg base CX0 3 "_law_catalog" ["_law_row"] (spLCat K) := by
  have sc := sc_lcat
  refine Ok.mk_ (i := 55) T (by decide +kernel) sc (fun _ _ _ _ _ _ us hl => match us, hl with | [_], _ => rfl) (fun vs H Q E h => ?_) (fun f cdv A outer s H vs Q E hr h => ?_)
  · obtain ⟨S, a, rfl, _⟩ := h
    rfl
  · obtain ⟨S, a, rfl, R, k⟩ := h
    refine ⟨_, pss_cons (ps_par (i := 1) (j := 2) (by rfl) sc.nd rfl rfl (by decide) rfl rfl (pa_cons (pe_slice (k_sl_tupA (K := K) rfl) (pe_tup (pa_cons (pe_str) (pa_cons (pe_str) (pa_cons (pe_str) pa_nil)))) po_none (po_some (pe_op op_add (pe_int) (pe_fn d_law_taken (hr.mono (by decide)) pass0 (pa_cons (pv 0) (pa_cons (pe_int) pa_nil)))))) (pa_cons (pe_slice (k_sl_tupA (K := K) rfl) (pe_tup (pa_cons (pe_str) (pa_cons (pe_str) pa_nil))) po_none (po_some (pe_op op_add (pe_int) (pe_fn d_law_taken (hr.mono (by decide)) pass0 (pa_cons (pv 0) (pa_cons (pe_int) pa_nil)))))) pa_nil)) (by rfl))
      (pss_cons (ps_par3 (i := 3) (j := 4) (l := 5) (by rfl) sc.nd rfl rfl rfl (by decide) (by decide) (by decide) rfl rfl rfl (pa_cons (pe_slice (k_sl_tupA (K := K) rfl) (pe_tup (pa_cons (pe_str) (pa_cons (pe_str) (pa_cons (pe_str) pa_nil)))) po_none (po_some (pe_op op_add (pe_int) (pe_fn d_law_taken (hr.mono (by decide)) pass0 (pa_cons (pv 0) (pa_cons (pe_int) pa_nil)))))) (pa_cons (pe_lst pa_nil) (pa_cons (pe_lst pa_nil) pa_nil))) (by rfl))
      (pss_cons (ps_for PassesOwn.never rfl (pi_tup (pv 1)) (pg_name (i := 6) sc.nd rfl (Or.inl rfl))
        (pss_one (ps_for PassesOwn.never rfl (pi_tup (pv 2)) (pg_name (i := 7) sc.nd rfl (Or.inl rfl))
          (pss_one (ps_if (pt_cmpR op_gt (pe_fn d_law_taken (hr.mono (by decide)) pass0 (pa_cons (pv 0) (pa_cons (pe_int) pa_nil))) (pe_int) (nomark _))
            (pss_cons (ps_set (i := 8) sc.nd rfl (Or.inl rfl) (pe_fn d_law_taken (hr.mono (by decide)) pass0 (pa_cons (pv 0) (pa_cons (pe_int) pa_nil))))
            (pss_one (ps_expr (pe_bm PySem.F.plainAttrs_list PySem.F.slot_list_append PySem.F.type_list_append mt_append (pv 4) (pa_cons (pe_tup (pa_cons (pv 6) (pa_cons (pv 7) (pa_cons (pv 8) (pa_cons (pe_op op_add (pv 8) (pe_fn d_law_taken (hr.mono (by decide)) pass0 (pa_cons (pv 0) (pa_cons (pe_int) pa_nil)))) (pa_cons (pe_fn d_law_taken (hr.mono (by decide)) pass0 (pa_cons (pv 0) (pa_cons (pe_int) pa_nil))) pa_nil)))))) pa_nil)))))
            (pss_nil))))))
      (pss_cons (ps_for PassesOwn.never rfl (pi_range1 rfl (T.free _ (by decide +kernel)) (pa_cons (pe_fn d_law_taken (hr.mono (by decide)) pass0 (pa_cons (pv 0) (pa_cons (pe_int) pa_nil))) pa_nil)) (pg_name (i := 9) sc.nd rfl (Or.inl rfl))
        (pss_cons (ps_par (i := 6) (j := 10) (by rfl) sc.nd rfl rfl (by decide) rfl rfl (pa_cons (pe_fn d_law_pick (hr.mono (by decide)) pass0 (pa_cons (pv 0) (pa_cons (pe_callTy (k_list (K := K) rfl) (by rfl) (T.free _ (by decide +kernel)) (by decide +kernel) (pa_cons (pv 1) pa_nil)) pa_nil))) (pa_cons (pe_fn d_law_pick (hr.mono (by decide)) pass0 (pa_cons (pv 0) (pa_cons (pe_callTy (k_list (K := K) rfl) (by rfl) (T.free _ (by decide +kernel)) (by decide +kernel) (pa_cons (pv 3) pa_nil)) pa_nil))) pa_nil)) (by rfl))
        (pss_one (ps_expr (pe_bm PySem.F.plainAttrs_list PySem.F.slot_list_append PySem.F.type_list_append mt_append (pv 5) (pa_cons (pe_tup (pa_cons (pe_op op_add_str (pe_str) (pe_callTy call_str_int (by rfl) (T.free _ (by decide +kernel)) (by decide +kernel) (pa_cons (pv 9) pa_nil))) (pa_cons (pv 6) (pa_cons (pv 10) (pa_cons (pe_fn d_law_taken (hr.mono (by decide)) pass0 (pa_cons (pv 0) (pa_cons (pe_int) pa_nil))) (pa_cons (pe_fn d_law_taken (hr.mono (by decide)) pass0 (pa_cons (pv 0) (pa_cons (pe_int) pa_nil))) pa_nil)))))) pa_nil))))))
      (pss_one (ps_ret (pe_tup (pa_cons (pv 1) (pa_cons (pv 2) (pa_cons (pv 3) (pa_cons (pe_callTy (k_tuple (K := K) rfl) (by rfl) (T.free _ (by decide +kernel)) (by decide +kernel) (pa_cons (pv 4) pa_nil)) (pa_cons (pe_callTy (k_tuple (K := K) rfl) (by rfl) (T.free _ (by decide +kernel)) (by decide +kernel) (pa_cons (pv 5) pa_nil)) pa_nil))))))))))), ?_⟩
    have fin : ∀ {r m : Int}, 0 ≤ r → r < m → ∃ n : Nat, (n : Int) = r ∧ (n : Int) < m := fun {r m} h0 h1 => ⟨r.toNat, by omega, by omega⟩
    -- houses
    refine ⟨by show 3 ≤ sizeLine; decide, fun t1 ht1 => ?_⟩
    have R1 := R.more (same_new (o := .tup [.str "east", .str "west", .str "hill"]) ht1)
    refine ⟨_, rfl, S, a, _, rfl, R1.r1, by decide, by decide, fun r1 H1 r10 r11 S1 => ?_⟩
    obtain ⟨n, rfl, hn⟩ := fin r10 r11
    refine ⟨_, _, rfl, rfl, _, rfl, slA (1 + n) (by omega) (l := HSES) (S1.t (SqT.of upd_same)) fun ph H2 s2 hph => ?_⟩
    have S2 := (R1.trans S1).add s2
    -- regions
    refine ⟨by show 2 ≤ sizeLine; decide, fun t2 ht2 => ?_⟩
    have S3 := S2.add (same_new (o := .tup [.str "ra", .str "rb"]) ht2)
    refine ⟨_, rfl, S, a, _, rfl, S3.r1, by decide, by decide, fun r2 H3 r20 r21 S4 => ?_⟩
    obtain ⟨m, rfl, hm⟩ := fin r20 r21
    refine ⟨_, _, rfl, rfl, _, rfl, slA (1 + m) (by omega) (l := RGS) (S4.t (SqT.of upd_same)) fun pr H4 s4 hpr => ?_⟩
    have S5 := (S3.trans S4).add s4
    have hph4 := same_t s4 (S4.t (same_t (same_new (o := .tup [V.str "ra", .str "rb"]) ht2) hph))
    refine ⟨_, _, rfl, ?_⟩
    -- items
    refine ⟨by show 3 ≤ sizeLine; decide, fun t3 ht3 => ?_⟩
    have S6 := S5.add (same_new (o := .tup [.str "tea", .str "pot", .str "cup"]) ht3)
    refine ⟨_, rfl, S, a, _, rfl, S6.r1, by decide, by decide, fun r3 H5 r30 r31 S7 => ?_⟩
    obtain ⟨j, rfl, hj⟩ := fin r30 r31
    refine ⟨_, _, rfl, rfl, _, rfl, slA (1 + j) (by omega) (l := ITS) (S7.t (SqT.of upd_same)) fun pi H6 s6 hpi => ?_⟩
    have S8 := (S6.trans S7).add s6
    have toH6 : ∀ {t xs}, SqT K H4 t xs → SqT K H6 t xs := fun h => same_t s6 (S7.t (same_t (same_new (o := .tup [V.str "tea", .str "pot", .str "cup"]) ht3) h))
    -- the two lists
    refine ⟨by show 0 ≤ sizeLine; decide, fun lp hlp => ⟨by show 0 ≤ sizeLine; decide, fun sp hsp => ⟨_, _, _, rfl, ?_⟩⟩⟩
    have ha6 : ∃ l, H6 a = some (.lst l) := S8.r1.isL
    have nls : lp ≠ sp := ne_of_none upd_same hsp
    have hsp6 : H6 sp = none := by rw [← hsp, upd_ne nls.symm]
    have S9 := (S8.add (same_new (o := .lst []) hlp)).add (same_new (o := .lst []) hsp)
    have toH7 : ∀ {t xs}, SqT K H6 t xs → SqT K (upd (upd H6 lp (.lst [])) sp (.lst [])) t xs := fun h => same_t (same_new (o := .lst []) hsp) (same_t (same_new (o := .lst []) hlp) h)
    have C0 : CW K S a ph pr pi lp sp (HSES.take (1 + n)) (RGS.take (1 + m)) (ITS.take (1 + j)) H (upd (upd H6 lp (.lst [])) sp (.lst [])) [] [] :=
      ⟨S9, toH7 (toH6 hph4), toH7 (toH6 hpr), toH7 hpi, (S8.new hlp).1, (S8.new hsp6).1, (S8.new hlp).2, (S8.new hsp6).2, nls, ⟨[], by rw [upd_ne nls]; exact upd_same, .nil⟩, ⟨[], upd_same, .nil⟩⟩
    generalize (upd (upd H6 lp (.lst [])) sp (.lst [])) = H7 at C0 ⊢
    have hsL : (HSES.take (1 + n)).length ≤ 3 := by rw [List.length_take]; exact Nat.min_le_right _ _
    have rsL : (RGS.take (1 + m)).length ≤ 2 := by rw [List.length_take]; exact Nat.min_le_right _ _
    have itL : 1 ≤ (ITS.take (1 + j)).length ∧ (ITS.take (1 + j)).length ≤ 3 := by rw [List.length_take]; exact ⟨Nat.le_min.mpr ⟨by omega, by decide⟩, Nat.min_le_right _ _⟩
    have hsL1 : 1 ≤ (HSES.take (1 + n)).length := by rw [List.length_take]; exact Nat.le_min.mpr ⟨by omega, by decide⟩
    have lc := fun ls ss => lawcat_of (n := n) (m := m) (k := j) (ls := ls) (ss := ss) (by omega) (by omega) (by omega)
    generalize HSES.take (1 + n) = hs at *
    generalize RGS.take (1 + m) = rs at *
    generalize ITS.take (1 + j) = its at *
    refine ⟨_, rfl, ph, rfl, ⟨_, C0.ph⟩, ?_⟩
    refine for_it (walk_tup (xs := hs.map V.str)) (fun i σ H8 => ∃ (ls : List Lane) (v6 v7 v8 : Option V), σ = [some (.ref a), some (.ref ph), some (.ref pr), some (.ref pi), some (.ref lp), some (.ref sp), v6, v7, v8, none, none] ∧ CW K S a ph pr pi lp sp hs rs its H H8 ls [] ∧ (∀ l ∈ ls, LaneG hs rs l) ∧ (ls.map fun l => (l.h, l.r)).Sublist (prs (hs.take i) rs))
      ⟨[], none, none, none, rfl, C0, fun _ h => by (cases h), List.nil_sublist _⟩ (fun i σ H8 _ ⟨_, _, _, _, _, C, _⟩ => C.ph) ?_ ?_
    · rintro i y σ H8 H9 hi ⟨ls, v6, v7, v8, rfl, C, hg, hsub⟩ ⟨rfl, hx⟩
      rw [List.getElem?_map] at hx
      obtain ⟨h, hh, rfl⟩ := Option.map_eq_some_iff.mp hx
      have tk : prs (hs.take (i + 1)) rs = prs (hs.take i) rs ++ rs.map fun r => (h, r) := by
        unfold prs
        rw [List.take_add_one, hh, List.flatMap_append]
        simp
      refine ⟨_, rfl, pr, rfl, ⟨_, C.pr⟩, ?_⟩
      refine for_it (walk_tup (xs := rs.map V.str)) (fun q σ H8 => ∃ (ls : List Lane) (v7 v8 : Option V), σ = [some (.ref a), some (.ref ph), some (.ref pr), some (.ref pi), some (.ref lp), some (.ref sp), some (.str h), v7, v8, none, none] ∧ CW K S a ph pr pi lp sp hs rs its H H8 ls [] ∧ (∀ l ∈ ls, LaneG hs rs l) ∧ (ls.map fun l => (l.h, l.r)).Sublist (prs (hs.take i) rs ++ (rs.take q).map fun r => (h, r)))
        ⟨ls, v7, v8, rfl, C, hg, by rw [List.take_zero, List.map_nil, List.append_nil]; exact hsub⟩ (fun i σ H8 _ ⟨_, _, _, _, C, _⟩ => C.pr) ?_ ?_
      · rintro q y σ H9 H10 hq ⟨ls, v7, v8, rfl, C, hg, hsub⟩ ⟨rfl, hx⟩
        rw [List.getElem?_map] at hx
        obtain ⟨r, hr', rfl⟩ := Option.map_eq_some_iff.mp hx
        have tk2 : (rs.take (q + 1)).map (fun r => (h, r)) = (rs.take q).map (fun r => (h, r)) ++ [(h, r)] := by
          rw [List.take_add_one, hr', List.map_append]
          rfl
        refine ⟨_, rfl, S, a, _, rfl, C.st.r1, by decide, by decide, fun z H11 z0 z1 T1 => ?_⟩
        have C1 := C.step T1
        refine ⟨_, _, rfl, rfl, _, rfl, ite2 (fun _ => ?_) fun _ => ?_⟩
        · refine ⟨_, rfl, S, a, _, rfl, C1.st.r1, by decide, by decide, fun lo H12 lo0 lo1 T2 => ?_⟩
          have C2 := C1.step T2
          obtain ⟨xl2, lA, _⟩ := C2.l
          refine ⟨_, rfl, .inl ⟨rfl, _, SqL.of lA⟩, _, rfl, _, rfl, _, rfl, _, rfl, _, rfl, S, a, _, rfl, C2.st.r1, by decide, by decide, fun dh H13 dh0 dh1 T3 => ?_⟩
          have C3 := C2.step T3
          refine ⟨_, _, rfl, rfl, _, rfl, S, a, _, rfl, C3.st.r1, by decide, by decide, fun pz H14 pz0 pz1 T4 => ?_⟩
          have C4 := C3.step T4
          refine ⟨by show 5 ≤ sizeLine; decide, fun t ht => ?_⟩
          have C5 := C4.more (same_new (o := .tup [.str h, .str r, .int lo, .int (lo + dh), .int pz]) ht)
          obtain ⟨xl, l1, l2⟩ := C5.l
          have ll := l2.length
          have lsub := hsub.length_le
          rw [List.length_map] at ll lsub
          rw [List.length_append, prs_length, List.length_map, List.length_take, List.length_take] at lsub
          have lb : min i hs.length * rs.length ≤ 3 * 2 := Nat.mul_le_mul (by omega) rsL
          have lb2 : min q rs.length ≤ 2 := by omega
          have hmem : h ∈ hs := List.mem_of_getElem? hh
          have rmem : r ∈ rs := List.mem_of_getElem? hr'
          refine ⟨lp, xl, _, rfl, rfl, l1, Nat.lt_of_le_of_lt (by omega : xl.length ≤ 8) (by decide), ?_⟩
          refine ⟨ls ++ [⟨h, r, lo, lo + dh, pz⟩], _, _, rfl, C5.addL (l := ⟨h, r, lo, lo + dh, pz⟩) l1 (.tup (SqT.of upd_same) (.cons (.str _) (.cons (.str _) (.cons (.int _) (.cons (.int _) (.cons (.int _) .nil)))))), fun l hl => ?_, ?_⟩
          · rcases List.mem_append.mp hl with hl | hl
            · exact hg l hl
            · rw [List.mem_singleton.mp hl]
              exact ⟨hmem, rmem, by show 0 ≤ lo ∧ lo ≤ lo + dh ∧ lo + dh ≤ 4; omega, by show 0 ≤ pz ∧ pz ≤ 5; omega⟩
          · rw [tk2, ← List.append_assoc, List.map_append]
            exact hsub.append (List.Sublist.refl _)
        · refine ⟨ls, _, _, rfl, C1, hg, ?_⟩
          rw [tk2, ← List.append_assoc]
          exact hsub.trans (List.sublist_append_left _ _)
      · rintro σ H9 ⟨ls, v7, v8, rfl, C, hg, hsub⟩
        rw [List.length_map, List.take_length, ← tk] at hsub
        exact ⟨ls, _, _, _, rfl, C, hg, hsub⟩
    · rintro σ H8 ⟨ls, v6, v7, v8, rfl, C, hg, hsub⟩
      rw [List.length_map, List.take_length] at hsub
      refine ⟨_, rfl, S, a, _, rfl, C.st.r1, by decide, by decide, fun z H11 z0 z1 T1 => ?_⟩
      have C1 := C.step T1
      obtain ⟨zn, rfl, hzn⟩ := fin z0 z1
      have ez : ((zn : Nat) : Int).toNat = zn := by omega
      refine ⟨_, rfl, by omega, by omega, ?_⟩
      rw [ez]
      refine for_it (walk_range (lo := 0) (n := zn)) (fun i σ H8 => ∃ (ss : List Sup) (v6 v7 v8 v9 v10 : Option V), σ = [some (.ref a), some (.ref ph), some (.ref pr), some (.ref pi), some (.ref lp), some (.ref sp), v6, v7, v8, v9, v10] ∧ CW K S a ph pr pi lp sp hs rs its H H8 ls ss ∧ (∀ s ∈ ss, SupG hs its s) ∧ ss.map Sup.n = (List.range i).map nmS)
        ⟨[], _, _, _, _, _, rfl, C1, fun _ h => by (cases h), rfl⟩ (fun _ _ _ _ _ => True.intro) ?_ ?_
      · rintro i y σ H8 H9 hi ⟨ss, v6, v7, v8, v9, v10, rfl, C, hgs, hnm⟩ ⟨rfl, rfl⟩
        have ek : ((0 : Int) + (i : Nat)) = ((i : Nat) : Int) := by omega
        show gName 9 (V.int ((0 : Int) + (i : Nat))) _ _ _
        rw [ek]
        refine ⟨_, rfl, _, rfl, ph, _, rfl, .inr C.ph, fun l1 hl1 => ?_⟩
        have D1 := C.more (same_new (o := .lst (hs.map V.str)) hl1)
        refine ⟨S, a, l1, _, rfl, D1.st.r1, (C.st.new hl1).1.symm, SqL.of upd_same, by rw [List.length_map]; exact hsL1, by rw [List.length_map]; omega, fun u x H10 hu T2 => ?_⟩
        rw [List.getElem?_map] at hu
        obtain ⟨h, hh, rfl⟩ := Option.map_eq_some_iff.mp hu
        have D2 := D1.step T2
        refine ⟨_, rfl, _, rfl, pi, _, rfl, .inr D2.pi, fun l2 hl2 => ?_⟩
        have D3 := D2.more (same_new (o := .lst (its.map V.str)) hl2)
        refine ⟨S, a, l2, _, rfl, D3.st.r1, (D2.st.new hl2).1.symm, SqL.of upd_same, by rw [List.length_map]; exact itL.1, by rw [List.length_map]; omega, fun u x H11 hu T3 => ?_⟩
        rw [List.getElem?_map] at hu
        obtain ⟨it, hit, rfl⟩ := Option.map_eq_some_iff.mp hu
        have D4 := D3.step T3
        refine ⟨_, _, rfl, ?_⟩
        obtain ⟨xs2, lA, _⟩ := D4.s
        have i5 : i < 5 := by omega
        have enm : Str.ofString "s" ++ Str.ofString (toString ((i : Nat) : Int)) = nmS i := rfl
        refine ⟨_, rfl, .inl ⟨rfl, _, SqL.of lA⟩, _, rfl, _, rfl, lg_nat (i := i) (by omega), _, _, rfl, rfl, nm_len i (by omega), ?_⟩
        rw [enm]
        refine ⟨_, rfl, _, rfl, _, rfl, S, a, _, rfl, D4.st.r1, by decide, by decide, fun d1 H12 d10 d11 T4 => ?_⟩
        have D5 := D4.step T4
        refine ⟨_, rfl, S, a, _, rfl, D5.st.r1, by decide, by decide, fun d2 H13 d20 d21 T5 => ?_⟩
        have D6 := D5.step T5
        refine ⟨by show 5 ≤ sizeLine; decide, fun t ht => ?_⟩
        have D7 := D6.more (same_new (o := .tup [.str (nmS i), .str h, .str it, .int d1, .int d2]) ht)
        obtain ⟨xs, s1, s2⟩ := D7.s
        have ll := s2.length
        have lnn := congrArg List.length hnm
        rw [List.length_map] at ll
        rw [List.length_map, List.length_map, List.length_range] at lnn
        refine ⟨sp, xs, _, rfl, rfl, s1, Nat.lt_of_le_of_lt (by omega : xs.length ≤ 8) (by decide), ?_⟩
        refine ⟨ss ++ [⟨nmS i, h, it, d1, d2⟩], _, _, _, _, _, rfl, D7.addS (x := ⟨nmS i, h, it, d1, d2⟩) s1 (.tup (SqT.of upd_same) (.cons (.str _) (.cons (.str _) (.cons (.str _) (.cons (.int _) (.cons (.int _) .nil)))))), fun s hs' => ?_, ?_⟩
        · rcases List.mem_append.mp hs' with hl | hl
          · exact hgs s hl
          · rw [List.mem_singleton.mp hl]
            exact ⟨List.mem_of_getElem? hh, List.mem_of_getElem? hit, by show 0 ≤ d1 ∧ d1 ≤ 5; omega, by show 0 ≤ d2 ∧ d2 ≤ 5; omega⟩
        · rw [List.map_append, hnm, List.range_succ, List.map_append]
          rfl
      · rintro σ H8 ⟨ss, v6, v7, v8, v9, v10, rfl, C, hgs, hnm⟩
        have ln : ss.length = zn := by
          have q := congrArg List.length hnm
          rw [List.length_map, List.length_map, List.length_range] at q
          exact q
        obtain ⟨xl, l1, l2⟩ := C.l
        obtain ⟨xs, s1, s2⟩ := C.s
        refine ⟨_, rfl, _, rfl, _, rfl, _, rfl, lp, xl, rfl, .inl ⟨SqL.of l1, fun tl htl => ?_⟩⟩
        have e1 := same_new (o := .tup xl) htl
        refine ⟨_, rfl, sp, xs, rfl, .inl ⟨SqL.of (e1 _ _ s1), fun ts hts => ?_⟩⟩
        have e2 := same_new (o := .tup xs) hts
        refine ⟨by show 5 ≤ sizeLine; decide, fun t ht => ?_⟩
        have e3 := same_new (o := .tup [V.ref ph, .ref pr, .ref pi, .ref tl, .ref ts]) ht
        have e123 := (e1.trans e2).trans e3
        refine k _ ⟨hs, rs, its, ls, ss⟩ _ (lc ls ss hg hsub hgs (by rw [ln]; exact hnm) (by omega)) (C.st.add e123) ?_
        refine .tup (SqT.of upd_same) (.cons (.tup (same_t e123 C.ph) (DpAll.ofStrs _)) (.cons (.tup (same_t e123 C.pr) (DpAll.ofStrs _)) (.cons (.tup (same_t e123 C.pi) (DpAll.ofStrs _)) (.cons ?_ (.cons ?_ .nil)))))
        · exact .tup (same_t (e2.trans e3) (SqT.of upd_same)) (l2.same e123)
        · exact .tup (same_t e3 (SqT.of upd_same)) (s2.same e123)
end
end KS
set_option Elab.async false
set_option linter.all false
set_option maxRecDepth 100000
set_option maxHeartbeats 8000000
set_option pp.maxSteps 400
/-! The law's order. -/
namespace KS
open PySem PySem.Spec PyProof.Rows L2
section
variable {P : Program} {w : World} {K : PySem.W.Frag} {mg : Str → Option Value} {base : Heap}
theorem eqv_nil (ds : List PyData) : PyData.eqv (.list ds) (.list []) = ds.isEmpty := by
  cases ds <;> simp [PyData.eqv, PyData.eqvAll]
theorem seq_nat {n k : Nat} (h : k < n) : seqIndex? ((k : Nat) : Int) n = some k := by
  unfold seqIndex?
  have e : (if ((k : Nat) : Int) < 0 then ((k : Nat) : Int) + (n : Nat) else ((k : Nat) : Int)) = (k : Nat) := if_neg (by omega)
  simp only [e]
  rw [if_pos (by rw [Bool.and_eq_true, decide_eq_true_eq, decide_eq_true_eq]; omega)]
  rfl
theorem fin_ {r m : Int} (h0 : 0 ≤ r) (h1 : r < m) : ∃ n : Nat, r = (n : Int) ∧ (n : Int) < m := ⟨r.toNat, by omega, by omega⟩
/-- what stands while an order is drawn -/
structure OW (K : PySem.W.Frag) (S : Addr × List Int) (a wp : Addr) (H H1 : Hp) (ws : List Wish) : Prop where
  st : Stp K S a H H1
  wa : wp ≠ a
  w0 : H wp = none
  w : ∃ xw, H1 wp = some (.lst xw) ∧ DpAll K H1 xw (ws.map Wish.d)
theorem wishes_nl (ws : List Wish) : nlAll (ws.map Wish.d) = true := nlAll_map _ _ fun x _ => Wish.nl x
theorem OW.step {S : Addr × List Int} {a wp : Addr} {H H1 H2 : Hp} {ws : List Wish} (h : OW K S a wp H H1 ws) (q : Stp K S a H1 H2) : OW K S a wp H H2 ws := by
  obtain ⟨xl, l1, l2⟩ := h.w
  exact ⟨h.st.trans q, h.wa, h.w0, xl, q.at_ h.wa l1, q.dpA (wishes_nl _) l2⟩
theorem OW.more {S : Addr × List Int} {a wp : Addr} {H H1 H2 : Hp} {ws : List Wish} (h : OW K S a wp H H1 ws) (q : Same H1 H2) : OW K S a wp H H2 ws := h.step (h.st.r1.more q)
/-- a change of a list that is not the wishes -/
theorem OW.put {S : Addr × List Int} {a wp b : Addr} {H H1 : Hp} {ws : List Wish} {l : List V} {o : HO} (h : OW K S a wp H H1 ws) (ba : b ≠ a) (bw : wp ≠ b) (b0 : H b = none) (hb : H1 b = some (.lst l)) : OW K S a wp H (upd H1 b o) ws := by
  obtain ⟨xl, l1, l2⟩ := h.w
  exact ⟨h.st.put ba b0, h.wa, h.w0, xl, by rw [upd_ne bw]; exact l1, dpAll_keep (fun _ _ q => t_updL hb q) (wishes_nl _) l2⟩
theorem OW.add {S : Addr × List Int} {a wp : Addr} {H H1 : Hp} {ws : List Wish} {xw : List V} {v : V} {x : Wish} (h : OW K S a wp H H1 ws) (e : H1 wp = some (.lst xw)) (hv : Dp K H1 v x.d) : OW K S a wp H (upd H1 wp (.lst (xw ++ [v]))) (ws ++ [x]) := by
  obtain ⟨xl, l1, l2⟩ := h.w
  cases l1.symm.trans e
  have ht : ∀ b zs, SqT K H1 b zs → SqT K (upd H1 wp (.lst (xw ++ [v]))) b zs := fun b zs hz => t_updL l1 hz
  refine ⟨h.st.put h.wa h.w0, h.wa, h.w0, _, upd_same, ?_⟩
  rw [List.map_append]
  exact DpAll.append (dpAll_keep ht (wishes_nl _) l2) (.cons (dp_keep ht (Wish.nl x) hv) .nil)
theorem OW.at_ {S : Addr × List Int} {a wp : Addr} {H H1 : Hp} {ws : List Wish} (h : OW K S a wp H H1 ws) : ∃ xw, H1 wp = some (.lst xw) := let ⟨_, q, _⟩ := h.w; ⟨_, q⟩
theorem erase_map {α β : Type} (f : α → β) : ∀ (l : List α) (k : Nat), (l.map f).eraseIdx k = (l.eraseIdx k).map f
  | [], _ => rfl
  | _ :: _, 0 => rfl
  | x :: l, k + 1 => congrArg (f x :: ·) (erase_map f l k)
theorem erase_ne {α : Type} {l : List α} {u : Nat} (h : l.Nodup) (hu : u < l.length) {z : α} (hz : z ∈ l.eraseIdx u) : l[u] ≠ z := by
  obtain ⟨j, hj⟩ := List.mem_iff_getElem?.mp hz
  rw [List.getElem?_eraseIdx] at hj
  rintro rfl
  have e := List.getElem?_eq_getElem hu
  split at hj
  · have q := (List.getElem?_inj hu h).mp (e.trans hj.symm)
    omega
  · have q := (List.getElem?_inj hu h).mp (e.trans hj.symm)
    omega
def spLOrd (K : PySem.W.Frag) : Sp := fun vs H Q _ => ∃ (S : Addr × List Int) (a : Addr) (vc : V) (c : Cat) (nm : Str), vs = [.ref a, vc, .str nm] ∧ Row K S a H ∧ Dp K H vc c.d ∧ c.Ok ∧ nameOk nm = true ∧ ∀ (v : V) (o : Order) (H' : Hp), o.Ok c → o.n = nm → o.ws.length ≤ 2 → o.by_ ≤ 9 → Stp K S a H H' → Dp K H' v o.d → Q v H'
theorem sc_lord : FnScope ["_law_row", "_law_catalog_here", "_law_name", "_law_wishes_here", "_law_turn", "_law_items", "_law_first", "_law_chosen"] ["_law_row", "_law_catalog_here", "_law_name"] (defScope (tp 56)) := ⟨rfl, rfl, rfl, by decide +kernel, rfl, by decide +kernel, by decide +kernel⟩
theorem ok_lord (T : Tx K mg) (d_law_taken : Ok P w K mg base CX0 1 "_law_taken" ["_law_row", "_law_many"] (spTk K)) (d_law_pick : Ok P w K mg base CX0 2 "_law_pick" ["_law_row", "_law_things"] (spPk K)) : Ok P w K mg base CX0 3 "_law_order" ["_law_row", "_law_catalog_here", "_law_name"] (spLOrd K) := by
  have sc := sc_lord
  refine Ok.mk_ (i := 56) T (by decide +kernel) sc (fun _ _ _ _ _ _ us hl => match us, hl with | [_, _, _], _ => rfl) (fun vs H Q E h => ?_) (fun f cdv A outer s H vs Q E hr h => ?_)
  · obtain ⟨S, a, vc, c, nm, rfl, _⟩ := h
    rfl
  · obtain ⟨S, a, vc, c, nm, rfl, R, hc, ok, hnm, k⟩ := h
    have C : ∀ {H'}, Stp K S a H H' → ∃ ac vh vr vi vl vs, vc = .ref ac ∧ CatAt K H' c ac vh vr vi vl vs := fun q => cat_at (q.dp (Cat.nl c) hc)
    have itn := ok.its
    have rsn := ok.rs
    refine ⟨_, pss_cons (ps_set (i := 3) sc.nd rfl (Or.inl rfl) (pe_lst pa_nil))
      (pss_cons (ps_for PassesOwn.never rfl (pi_range1 rfl (T.free _ (by decide +kernel)) (pa_cons (pe_op op_add (pe_int) (pe_fn d_law_taken (hr.mono (by decide)) pass0 (pa_cons (pv 0) (pa_cons (pe_int) pa_nil)))) pa_nil)) (pg_name (i := 4) sc.nd rfl (Or.inl rfl))
        (pss_cons (ps_set (i := 5) sc.nd rfl (Or.inl rfl) (pe_callTy (k_list (K := K) rfl) (by rfl) (T.free _ (by decide +kernel)) (by decide +kernel) (pa_cons (pe_ix (k_ix_tup (K := K) rfl) (pv 1) (pe_int) (fun _ _ => rfl)) pa_nil)))
        (pss_cons (ps_set (i := 6) sc.nd rfl (Or.inl rfl) (pe_bm PySem.F.plainAttrs_list PySem.F.slot_list_pop PySem.F.type_list_pop mt_popAt (pv 5) (pa_cons (pe_fn d_law_taken (hr.mono (by decide)) pass0 (pa_cons (pv 0) (pa_cons (pe_callB (k_len (K := K) rfl) (by rfl) (T.free _ (by decide +kernel)) (by decide +kernel) (pa_cons (pv 5) pa_nil)) pa_nil))) pa_nil)))
        (pss_cons (ps_set (i := 7) sc.nd rfl (Or.inl rfl) (pe_ifExp (PW.pt (pw_or (pt_cmpR (k_op_eqD (K := K) rfl hr.units) (pv 5) (pe_lst pa_nil) (nomark _)) (pw_or1 (pt_cmpR op_gt (pe_fn d_law_taken (hr.mono (by decide)) pass0 (pa_cons (pv 0) (pa_cons (pe_int) pa_nil))) (pe_int) (nomark _))))) (pe_tup (pa_cons (pv 6) pa_nil)) (pe_tup (pa_cons (pv 6) (pa_cons (pe_fn d_law_pick (hr.mono (by decide)) pass0 (pa_cons (pv 0) (pa_cons (pv 5) pa_nil))) pa_nil)))))
        (pss_one (ps_expr (pe_bm PySem.F.plainAttrs_list PySem.F.slot_list_append PySem.F.type_list_append mt_append (pv 3) (pa_cons (pe_tup (pa_cons (pv 7) (pa_cons (pe_op op_add (pe_int) (pe_fn d_law_taken (hr.mono (by decide)) pass0 (pa_cons (pv 0) (pa_cons (pe_int) pa_nil)))) pa_nil))) pa_nil))))))))
      (pss_one (ps_ret (pe_tup (pa_cons (pv 2) (pa_cons (pe_fn d_law_pick (hr.mono (by decide)) pass0 (pa_cons (pv 0) (pa_cons (pe_callTy (k_list (K := K) rfl) (by rfl) (T.free _ (by decide +kernel)) (by decide +kernel) (pa_cons (pe_ix (k_ix_tup (K := K) rfl) (pv 1) (pe_int) (fun _ _ => rfl)) pa_nil)) pa_nil))) (pa_cons (pe_callTy (k_tuple (K := K) rfl) (by rfl) (T.free _ (by decide +kernel)) (by decide +kernel) (pa_cons (pv 3) pa_nil)) (pa_cons (pe_fn d_law_taken (hr.mono (by decide)) pass0 (pa_cons (pv 0) (pa_cons (pe_int) pa_nil))) (pa_cons (pe_fn d_law_taken (hr.mono (by decide)) pass0 (pa_cons (pv 0) (pa_cons (pe_int) pa_nil))) pa_nil))))))))), ?_⟩
    refine ⟨by show 0 ≤ sizeLine; decide, fun wp hwp => ?_⟩
    have O0 : OW K S a wp H (upd H wp (.lst [])) [] := ⟨R.more (same_new hwp), ((Stp.refl R).new hwp).1, hwp, [], upd_same, .nil⟩
    refine ⟨_, rfl, S, a, _, rfl, O0.st.r1, by decide, by decide, fun z H1 z0 z1 T1 => ?_⟩
    have O1 := O0.step T1
    obtain ⟨zn, rfl, hzn⟩ := fin_ z0 z1
    have ez : ((1 : Int) + (zn : Nat)).toNat = 1 + zn := by omega
    refine ⟨_, _, rfl, rfl, _, rfl, by omega, by omega, ?_⟩
    rw [ez]
    refine for_it (walk_range (lo := 0) (n := 1 + zn)) (fun i σ H8 => ∃ (ws : List Wish) (v4 v5 v6 v7 : Option V), σ = [some (.ref a), some vc, some (.str nm), some (.ref wp), v4, v5, v6, v7] ∧ OW K S a wp H H8 ws ∧ (∀ x ∈ ws, x.Ok c) ∧ ws.length = i)
        ⟨[], _, _, _, _, rfl, O1, fun _ h => by (cases h), rfl⟩ (fun _ _ _ _ _ => True.intro) ?_ ?_
    · rintro i y σ H2 H3 hi ⟨ws, v4, v5, v6, v7, rfl, O, hws, hlen⟩ ⟨rfl, rfl⟩
      obtain ⟨ac, vh, vr, vi, vl, vs, rfl, CA⟩ := C O.st
      obtain ⟨ai, rfl, hI⟩ := strs_at CA.i
      refine ⟨_, rfl, ac, _, _, _, rfl, rfl, CA.t, rfl, ai, _, rfl, .inr hI, fun il hil => ?_⟩
      have e1 := same_new (o := .lst (c.its.map V.str)) hil
      have O2 := O.more e1
      have il0 := (O.st.new hil)
      obtain ⟨xw0, lw0, _⟩ := O.w
      have wil : wp ≠ il := ne_of_none lw0 hil
      refine ⟨_, rfl, .inl ⟨rfl, _, SqL.of upd_same⟩, _, rfl, _, rfl, il, _, rfl, .inl (SqL.of upd_same), S, a, _, rfl, O2.st.r1, by rw [List.length_map]; have := itn.1; omega, by rw [List.length_map]; have := itn.2.1; omega, fun u H4 u0 u1 T2 => ?_⟩
      have O3 := O2.step T2
      obtain ⟨un, rfl, hun⟩ := fin_ u0 u1
      have hun : un < (c.its.map V.str).length := by omega
      have hil4 := T2.at_ il0.1 upd_same
      have hun2 : un < c.its.length := by rw [List.length_map] at hun; exact hun
      have its5 := itn.2.1
      refine ⟨il, _, _, un, .str (c.its[un]), rfl, rfl, hil4, by omega, by omega, seq_nat hun, by rw [List.getElem?_map, List.getElem?_eq_getElem hun2]; rfl, ?_⟩
      have O4 := O3.put (o := .lst ((c.its.map V.str).eraseIdx un)) il0.1 wil il0.2 hil4
      have er : (c.its.map V.str).eraseIdx un = (c.its.eraseIdx un).map V.str := erase_map _ _ _
      have hmem : c.its[un] ∈ c.its := List.getElem_mem _
      have hnx : ∀ z ∈ c.its.eraseIdx un, z ∈ c.its ∧ c.its[un] ≠ z := fun z hz => ⟨List.mem_of_mem_eraseIdx hz, erase_ne itn.2.2.2 hun2 hz⟩
      have hilN : upd H4 il (.lst ((c.its.map V.str).eraseIdx un)) il = some (.lst ((c.its.eraseIdx un).map V.str)) := by rw [upd_same, er]
      have ler : (c.its.eraseIdx un).length ≤ c.its.length := List.length_eraseIdx_le ..
      generalize upd H4 il (.lst ((c.its.map V.str).eraseIdx un)) = H5 at O4 hilN ⊢
      generalize hit : c.its[un] = it at *
      generalize hrest : c.its.eraseIdx un = rest at *
      have ok1 : namesOk [it] 3 := ⟨by show 1 ≤ 1; decide, by show 1 ≤ 3; decide, fun s hs => by rw [List.mem_singleton.mp hs]; exact itn.2.2.1 _ hmem, by simp⟩
      have in1 : ∀ s ∈ [it], s ∈ c.its := fun s hs => by rw [List.mem_singleton.mp hs]; exact hmem
      have rsm : ∀ s ∈ rest, nameOk s = true := fun s hs => itn.2.2.1 _ (hnx s hs).1
      refine ⟨_, rfl, by show 0 ≤ sizeLine; decide, fun l0 hl0 => ?_⟩
      have e6 := same_new (o := .lst []) hl0
      have O5 := O4.more e6
      have hil6 := e6 _ _ hilN
      have hl06 : upd H5 l0 (.lst []) l0 = some (.lst []) := upd_same
      generalize upd H5 l0 (.lst []) = H6 at O5 hil6 hl06 ⊢
      refine ⟨.list (rest.map .str), .list [], .lst (SqL.of hil6) (DpAll.ofStrs _), .lst (SqL.of hl06) .nil, (Sm.lst (n := 1) fun x hx => ?_).shaped, (Sm.lst (n := 1) Sm.nil).shaped, _, rfl, ?_⟩
      · obtain ⟨s, hs, rfl⟩ := List.mem_map.mp hx
        exact Sm.name (rsm s hs)
      rw [eqv_nil]
      have eie : (rest.map PyData.str).isEmpty = rest.isEmpty := by cases rest <;> rfl
      rw [eie]
      by_cases hrz : rest.isEmpty = true
      · refine iteE hrz (iteT ⟨_, rfl, by show 1 ≤ sizeLine; decide, fun t ht => ?_⟩)
        have O6 := O5.more (same_new (o := .tup [.str it]) ht)
        obtain ⟨xwA, wA⟩ := O6.at_
        refine ⟨_, rfl, .inl ⟨rfl, _, SqL.of wA⟩, _, rfl, _, rfl, S, a, _, rfl, O6.st.r1, by decide, by decide, fun b H8 b0 b1 T8 => ?_⟩
        have P1 := O6.step T8
        refine ⟨_, _, rfl, rfl, by show 2 ≤ sizeLine; decide, fun t2 ht2 => ?_⟩
        have P2 := P1.more (same_new (o := .tup [.ref t, .int (1 + b)]) ht2)
        obtain ⟨xw, w1, w2⟩ := P2.w
        have wl := w2.length
        rw [List.length_map] at wl
        have hok : (⟨[it], 1 + b⟩ : Wish).Ok c := ⟨ok1, in1, by show 1 ≤ 1 + b ∧ 1 + b ≤ 99; omega⟩
        refine ⟨wp, xw, _, rfl, rfl, w1, Nat.lt_of_le_of_lt (by omega : xw.length ≤ 8) (by decide), ?_⟩
        refine ⟨ws ++ [⟨[it], 1 + b⟩], _, _, _, _, rfl, P2.add (x := ⟨[it], 1 + b⟩) w1 (.tup (SqT.of upd_same) (.cons (.tup (same_t (same_new ht2) (T8.t (SqT.of upd_same))) (DpAll.ofStrs [it])) (.cons (.int _) .nil))), fun x hx => ?_, by rw [List.length_append, hlen]; rfl⟩
        rcases List.mem_append.mp hx with hx | hx
        · exact hws x hx
        · rw [List.mem_singleton.mp hx]
          exact hok
      · have hrn : rest ≠ [] := fun e => hrz (by rw [e]; rfl)
        refine iteEf (Bool.eq_false_iff.mpr hrz) ?_
        refine ⟨_, rfl, S, a, _, rfl, O5.st.r1, by decide, by decide, fun g H7 g0 g1 T6 => ⟨_, _, rfl, rfl, _, rfl, ite2 (fun _ => ?_) fun _ => ?_⟩⟩
        · refine ⟨_, rfl, by show 1 ≤ sizeLine; decide, fun t ht => ?_⟩
          have O6 := (O5.step T6).more (same_new (o := .tup [.str it]) ht)
          obtain ⟨xwA, wA⟩ := O6.at_
          refine ⟨_, rfl, .inl ⟨rfl, _, SqL.of wA⟩, _, rfl, _, rfl, S, a, _, rfl, O6.st.r1, by decide, by decide, fun b H8 b0 b1 T8 => ?_⟩
          have P1 := O6.step T8
          refine ⟨_, _, rfl, rfl, by show 2 ≤ sizeLine; decide, fun t2 ht2 => ?_⟩
          have P2 := P1.more (same_new (o := .tup [.ref t, .int (1 + b)]) ht2)
          obtain ⟨xw, w1, w2⟩ := P2.w
          have wl := w2.length
          rw [List.length_map] at wl
          have hok : (⟨[it], 1 + b⟩ : Wish).Ok c := ⟨ok1, in1, by show 1 ≤ 1 + b ∧ 1 + b ≤ 99; omega⟩
          refine ⟨wp, xw, _, rfl, rfl, w1, Nat.lt_of_le_of_lt (by omega : xw.length ≤ 8) (by decide), ?_⟩
          refine ⟨ws ++ [⟨[it], 1 + b⟩], _, _, _, _, rfl, P2.add (x := ⟨[it], 1 + b⟩) w1 (.tup (SqT.of upd_same) (.cons (.tup (same_t (same_new ht2) (T8.t (SqT.of upd_same))) (DpAll.ofStrs [it])) (.cons (.int _) .nil))), fun x hx => ?_, by rw [List.length_append, hlen]; rfl⟩
          rcases List.mem_append.mp hx with hx | hx
          · exact hws x hx
          · rw [List.mem_singleton.mp hx]
            exact hok
        · have O7 := O5.step T6
          have hil7 := T6.at_ il0.1 hil6
          refine ⟨_, rfl, _, rfl, _, rfl, S, a, il, _, rfl, O7.st.r1, il0.1.symm, SqL.of hil7, by rw [List.length_map]; exact List.length_pos_iff.mpr hrn, by rw [List.length_map]; omega, fun u x H9 hu T7 => ?_⟩
          rw [List.getElem?_map] at hu
          obtain ⟨it2, hit2, rfl⟩ := Option.map_eq_some_iff.mp hu
          have q2 := hnx it2 (List.mem_of_getElem? hit2)
          refine ⟨by show 2 ≤ sizeLine; decide, fun t ht => ?_⟩
          have O8 := (O7.step T7).more (same_new (o := .tup [.str it, .str it2]) ht)
          have in2 : ∀ s ∈ [it, it2], s ∈ c.its := fun s hs => by
            rcases List.mem_cons.mp hs with rfl | hs
            · exact hmem
            · rw [List.mem_singleton.mp hs]
              exact q2.1
          have ok2 : namesOk [it, it2] 3 := ⟨by show 1 ≤ 2; decide, by show 2 ≤ 3; decide, fun s hs => itn.2.2.1 _ (in2 s hs), by
            rw [List.nodup_cons]
            exact ⟨fun h => q2.2 (List.mem_singleton.mp h), by simp⟩⟩
          obtain ⟨xwA, wA⟩ := O8.at_
          refine ⟨_, rfl, .inl ⟨rfl, _, SqL.of wA⟩, _, rfl, _, rfl, S, a, _, rfl, O8.st.r1, by decide, by decide, fun b H8 b0 b1 T8 => ?_⟩
          have P1 := O8.step T8
          refine ⟨_, _, rfl, rfl, by show 2 ≤ sizeLine; decide, fun t2 ht2 => ?_⟩
          have P2 := P1.more (same_new (o := .tup [.ref t, .int (1 + b)]) ht2)
          obtain ⟨xw, w1, w2⟩ := P2.w
          have wl := w2.length
          rw [List.length_map] at wl
          have hok : (⟨[it, it2], 1 + b⟩ : Wish).Ok c := ⟨ok2, in2, by show 1 ≤ 1 + b ∧ 1 + b ≤ 99; omega⟩
          refine ⟨wp, xw, _, rfl, rfl, w1, Nat.lt_of_le_of_lt (by omega : xw.length ≤ 8) (by decide), ?_⟩
          refine ⟨ws ++ [⟨[it, it2], 1 + b⟩], _, _, _, _, rfl, P2.add (x := ⟨[it, it2], 1 + b⟩) w1 (.tup (SqT.of upd_same) (.cons (.tup (same_t (same_new ht2) (T8.t (SqT.of upd_same))) (DpAll.ofStrs [it, it2])) (.cons (.int _) .nil))), fun x hx => ?_, by rw [List.length_append, hlen]; rfl⟩
          rcases List.mem_append.mp hx with hx | hx
          · exact hws x hx
          · rw [List.mem_singleton.mp hx]
            exact hok
    · rintro σ H8 ⟨ws, v4, v5, v6, v7, rfl, O, hws, hlen⟩
      obtain ⟨ac, vh, vr, vi, vl, vs, rfl, CA⟩ := C O.st
      obtain ⟨ai, rfl, hI⟩ := strs_at CA.r
      refine ⟨_, rfl, _, rfl, _, rfl, ac, _, _, _, rfl, rfl, CA.t, rfl, ai, _, rfl, .inr hI, fun rl hrl => ?_⟩
      have e1 := same_new (o := .lst (c.rs.map V.str)) hrl
      have O2 := O.more e1
      refine ⟨S, a, rl, _, rfl, O2.st.r1, (O.st.new hrl).1.symm, SqL.of upd_same, by rw [List.length_map]; exact rsn.1, by rw [List.length_map]; have := rsn.2.1; omega, fun u x H9 hu T7 => ?_⟩
      rw [List.getElem?_map] at hu
      obtain ⟨r, hr', rfl⟩ := Option.map_eq_some_iff.mp hu
      have rmem : r ∈ c.rs := List.mem_of_getElem? hr'
      have O3 := O2.step T7
      obtain ⟨xw, w1, w2⟩ := O3.w
      refine ⟨_, rfl, wp, xw, rfl, .inl ⟨SqL.of w1, fun tw htw => ?_⟩⟩
      have e2 := same_new (o := .tup xw) htw
      have O4 := O3.more e2
      refine ⟨_, rfl, S, a, _, rfl, O4.st.r1, by decide, by decide, fun d H10 d0 d1 T8 => ?_⟩
      have O5 := O4.step T8
      refine ⟨_, rfl, S, a, _, rfl, O5.st.r1, by decide, by decide, fun g H11 g0 g1 T9 => ?_⟩
      have O6 := O5.step T9
      refine ⟨by show 5 ≤ sizeLine; decide, fun t ht => ?_⟩
      have e3 := same_new (o := .tup [.str nm, .str r, .ref tw, .int d, .int g]) ht
      have O7 := O6.more e3
      refine k _ ⟨nm, r, ws, d, g⟩ _ ⟨hnm, rsn.2.2.1 _ rmem, rmem, by show 1 ≤ ws.length ∧ ws.length ≤ 3; omega, hws, by show 0 ≤ d ∧ d ≤ 60; omega, by show 0 ≤ g ∧ g ≤ 999; omega⟩ rfl (by show ws.length ≤ 2; omega) (by show d ≤ 9; omega) O7.st ?_
      have hW : Dp K H10 (.ref tw) (.tuple (ws.map Wish.d)) := T8.dp (by show nlAll _ = true; exact wishes_nl _) (.tup (SqT.of upd_same) (w2.same e2))
      exact .tup (SqT.of upd_same) (.cons (.str _) (.cons (.str _) (.cons ((T9.dp (by show nlAll _ = true; exact wishes_nl _) hW).same e3) (.cons (.int _) (.cons (.int _) .nil)))))
end
end KS
set_option Elab.async false
set_option linter.all false
set_option maxRecDepth 100000
set_option maxHeartbeats 8000000
set_option pp.maxSteps 400
/-! The law's wishes, fits, over. -/
namespace KS
open PySem PySem.Spec PyProof.Rows L2
section
variable {P : Program} {w : World} {K : PySem.W.Frag} {mg : Str → Option Value} {base : Heap}
theorem sc_lwishes : FnScope ["_law_orders", "_law_found", "_law_name", "_law_region", "_law_wishes_here", "_law_by", "_law_worth", "_law_at", "_law_items", "_law_count"] ["_law_orders"] (defScope (tp 57)) := ⟨rfl, rfl, rfl, by decide +kernel, rfl, by decide +kernel, by decide +kernel⟩
theorem ok_lwishes (T : Tx K mg) : Ok P w K mg base CX0 1 "_law_wishes" ["_law_orders"] (spWishesOf K) := by
  have sc := sc_lwishes
  refine Ok.mk_ (i := 57) T (by decide +kernel) sc (fun _ _ _ _ _ _ us hl => match us, hl with | [_], _ => rfl) (fun vs H Q E h => ?_) (fun f cdv A outer s H vs Q E hr h => ?_)
  · obtain ⟨a, xs, os, rfl, _⟩ := h
    rfl
  · obtain ⟨a, xs, os, rfl, hS, hA, hlen, hws, k⟩ := h
    have hl := hA.length
    rw [List.length_map] at hl
    refine ⟨_, pss_cons (ps_set (i := 1) sc.nd rfl (Or.inl rfl) (pe_lst pa_nil))
      (pss_cons (ps_for PassesOwn.never rfl (pi_list (pv 0)) (k_pg_tup (K := K) (n := 5) rfl rfl (pgs_cons (pg_name (i := 2) sc.nd rfl (Or.inl rfl)) (pgs_cons (pg_name (i := 3) sc.nd rfl (Or.inl rfl)) (pgs_cons (pg_name (i := 4) sc.nd rfl (Or.inl rfl)) (pgs_cons (pg_name (i := 5) sc.nd rfl (Or.inl rfl)) (pgs_cons (pg_name (i := 6) sc.nd rfl (Or.inl rfl)) pgs_nil))))))
        (pss_one (ps_for PassesOwn.never rfl (pi_enumT rfl (T.free _ (by decide +kernel)) (pa_cons (pv 4) pa_nil)) (k_pg_tup (K := K) (n := 2) rfl rfl (pgs_cons (pg_name (i := 7) sc.nd rfl (Or.inl rfl)) (pgs_cons (k_pg_tup (K := K) (n := 2) rfl rfl (pgs_cons (pg_name (i := 8) sc.nd rfl (Or.inl rfl)) (pgs_cons (pg_name (i := 9) sc.nd rfl (Or.inl rfl)) pgs_nil))) pgs_nil)))
          (pss_one (ps_expr (pe_bm PySem.F.plainAttrs_list PySem.F.slot_list_append PySem.F.type_list_append mt_append (pv 1) (pa_cons (pe_tup (pa_cons (pv 2) (pa_cons (pv 7) (pa_cons (pv 8) (pa_cons (pv 3) (pa_cons (pv 9) (pa_cons (pv 5) pa_nil))))))) pa_nil)))))))
      (pss_one (ps_ret (pv 1)))), ?_⟩
    refine ⟨by show 0 ≤ sizeLine; decide, fun p hp => ?_⟩
    refine ⟨_, rfl, a, rfl, ⟨_, (same_new hp).seq hS⟩, ?_⟩
    refine for_it (walk_list (xs := xs)) (fun i σ H1 => ∃ (ys : List V) (v2 v3 v4 v5 v6 v7 v8 v9 : Option V), σ = [some (.ref a), some (.ref p), v2, v3, v4, v5, v6, v7, v8, v9] ∧ Same H H1 ∧ H1 p = some (.lst ys) ∧ DpAll K H1 ys ((wishesOf (os.take i)).map FW.d))
      ⟨[], _, _, _, _, _, _, _, _, rfl, same_new hp, upd_same, .nil⟩ (fun i σ H1 _ ⟨_, _, _, _, _, _, _, _, _, _, s1, _⟩ => s1.seq hS) ?_ ?_
    · rintro i y σ H1 H2 hi ⟨ys, v2, v3, v4, v5, v6, v7, v8, v9, rfl, s1, hp1, hd1⟩ ⟨rfl, hx⟩
      obtain ⟨d, hda, hdb⟩ := hA.get' hx
      rw [List.getElem?_map] at hda
      obtain ⟨o, ho, rfl⟩ := Option.map_eq_some_iff.mp hda
      obtain ⟨b, aw, rfl, hB, hW⟩ := order_at hdb
      obtain ⟨bw, xw, rfl, hBw, hAw⟩ := Dp.tup_inv hW
      have lw := hAw.length
      rw [List.length_map] at lw
      have hom : o ∈ os := List.mem_of_getElem? ho
      have l3 := hws o hom
      have tk : os.take (i + 1) = os.take i ++ [o] := by
        rw [List.take_add_one, ho]
        rfl
      have q1 := wishesOf_len (os.take i) fun z hz => hws z (List.mem_of_mem_take hz)
      rw [List.length_take] at q1
      have q2 : (wishesOf1 o).length = o.ws.length := by
        unfold wishesOf1
        rw [List.length_mapIdx]
      refine ⟨b, _, rfl, same_t s1 hB, rfl, _, _, rfl, _, _, rfl, _, _, rfl, _, _, rfl, _, _, rfl, rfl, ?_⟩
      refine ⟨_, rfl, bw, xw, rfl, same_t s1 hBw, ?_⟩
      refine for_it (walk_enumT (xs := xw)) (fun j σ H3 => ∃ (ys : List V) (v7 v8 v9 : Option V), σ = [some (.ref a), some (.ref p), some (.str o.n), some (.str o.r), some (.ref bw), some (.int o.by_), some (.int o.wo), v7, v8, v9] ∧ Same H H3 ∧ H3 p = some (.lst ys) ∧ DpAll K H3 ys ((wishesOf (os.take i) ++ (wishesOf1 o).take j).map FW.d))
        ⟨ys, v7, v8, v9, rfl, s1, hp1, by rw [List.take_zero, List.append_nil]; exact hd1⟩ (fun j σ H3 _ ⟨_, _, _, _, _, s3, _⟩ => same_t s3 hBw) ?_ ?_
      · rintro j z σ H3 H4 hj ⟨ys, v7, v8, v9, rfl, s3, hp3, hd3⟩ ⟨t, e1, e2, rfl, ht, rfl, ea, eb⟩
        cases ea
        obtain ⟨d, hd2, hd3'⟩ := hAw.get' eb
        rw [List.getElem?_map] at hd2
        obtain ⟨x, hx2, rfl⟩ := Option.map_eq_some_iff.mp hd2
        have st := same_new (o := .tup [V.int (j : Nat), e2]) ht
        obtain ⟨c, ci, rfl, hC, hCi⟩ := wish_at (hd3'.same (s3.trans st))
        have pt : p ≠ t := ne_of_none hp3 ht
        have ho1 : (wishesOf1 o)[j]? = some ⟨o.n, j, x.its, o.r, x.cnt, o.by_⟩ := by
          unfold wishesOf1
          rw [List.getElem?_mapIdx, hx2]
          rfl
        have tkj : (wishesOf1 o).take (j + 1) = (wishesOf1 o).take j ++ [⟨o.n, j, x.its, o.r, x.cnt, o.by_⟩] := by
          rw [List.take_add_one, ho1]
          rfl
        refine ⟨t, _, rfl, SqT.of upd_same, rfl, _, _, rfl, _, _, rfl, ⟨c, _, rfl, hC, rfl, _, _, rfl, _, _, rfl, rfl, rfl, ?_⟩⟩
        refine ⟨_, rfl, .inl ⟨rfl, _, SqL.of (st _ _ hp3)⟩, _, rfl, _, rfl, _, rfl, _, rfl, _, rfl, _, rfl, by show 6 ≤ sizeLine; decide, fun q hq => ?_⟩
        have sq := same_new (o := .tup [V.str o.n, .int (j : Nat), ci, .str o.r, .int x.cnt, .int o.by_]) hq
        have s5 := st.trans sq
        have ly := hd3.length
        rw [List.length_map, List.length_append, List.length_take] at ly
        refine ⟨p, ys, _, rfl, rfl, s5 _ _ hp3, Nat.lt_of_le_of_lt (by omega : ys.length ≤ 100) (by decide), ?_⟩
        have hk : ∀ b zs, SqT K _ b zs → SqT K (upd _ p (.lst (ys ++ [V.ref q]))) b zs := fun b zs hz => t_updL (s5 _ _ hp3) hz
        refine ⟨ys ++ [.ref q], _, _, _, rfl, same_mut (s3.trans s5) hp, upd_same, ?_⟩
        rw [tkj, ← List.append_assoc, List.map_append (l₂ := [_])]
        exact DpAll.append (dpAll_keep hk (nlAll_map _ _ fun _ _ => FW.nl _) (hd3.same s5)) (.cons (dp_keep hk (FW.nl _) (.tup (SqT.of upd_same) (.cons (.str _) (.cons (.int _) (.cons (hCi.same sq) (.cons (.str _) (.cons (.int _) (.cons (.int _) .nil)))))))) .nil)
      · rintro σ H3 ⟨ys, v7, v8, v9, rfl, s3, hp3, hd3⟩
        refine ⟨ys, _, _, _, _, _, _, _, _, rfl, s3, hp3, ?_⟩
        rw [lw, ← q2, List.take_length] at hd3
        rw [tk, wishesOf_snoc]
        exact hd3
    · rintro σ H1 ⟨ys, v2, v3, v4, v5, v6, v7, v8, v9, rfl, s1, hp1, hd1⟩
      rw [hl, List.take_length] at hd1
      exact ⟨_, rfl, k p ys H1 s1 hp hp1 hd1⟩
/-! ### fits -/
theorem sc_lfits : FnScope ["_law_catalog_here", "_law_supply", "_law_items", "_law_region", "_law_by", "_law_house", "_law_place", "_law_least", "_law_most", "_law_price"] ["_law_catalog_here", "_law_supply", "_law_items", "_law_region", "_law_by"] (defScope (tp 58)) := ⟨rfl, rfl, rfl, by decide +kernel, rfl, by decide +kernel, by decide +kernel⟩
theorem ok_lfits (T : Tx K mg) : Ok P w K mg base CX0 1 "_law_fits" ["_law_catalog_here", "_law_supply", "_law_items", "_law_region", "_law_by"] (spServes K) := by
  have sc := sc_lfits
  refine Ok.mk_ (i := 58) T (by decide +kernel) sc (fun _ _ _ _ _ _ us hl => match us, hl with | [_, _, _, _, _], _ => rfl) (fun vs H Q E h => ?_) (fun f cdv A outer s H vs Q E hr h => ?_)
  · obtain ⟨vc, v, vi, c, x, its, r, b, rfl, _⟩ := h
    rfl
  · obtain ⟨vc, v, vi, c, x, its, r, b, rfl, hc, ok, hx, hxm, hi, hr', k⟩ := h
    obtain ⟨a, rfl, hS⟩ := sup_at hx
    obtain ⟨ai, rfl, hI⟩ := strs_at hi
    obtain ⟨ac, vh, vr, vit, vl, vs, rfl, C⟩ := cat_at hc
    obtain ⟨al, xl, rfl, hL, hAL⟩ := Dp.tup_inv C.l
    have ll := hAL.length
    rw [List.length_map] at ll
    have hhn := (ok.sups x hxm).hn
    refine ⟨_, pss_cons (ps_for PassesOwn.never rfl (pi_tup (pe_ix (k_ix_tup (K := K) rfl) (pv 0) (pe_int) (fun _ _ => rfl))) (k_pg_tup (K := K) (n := 5) rfl rfl (pgs_cons (pg_name (i := 5) sc.nd rfl (Or.inl rfl)) (pgs_cons (pg_name (i := 6) sc.nd rfl (Or.inl rfl)) (pgs_cons (pg_name (i := 7) sc.nd rfl (Or.inl rfl)) (pgs_cons (pg_name (i := 8) sc.nd rfl (Or.inl rfl)) (pgs_cons (pg_name (i := 9) sc.nd rfl (Or.inl rfl)) pgs_nil))))))
        (pss_one (ps_if (pt_cmpR (k_op_eqD (K := K) rfl hr.units) (pe_tup (pa_cons (pv 5) (pa_cons (pv 6) pa_nil))) (pe_tup (pa_cons (pe_ix (k_ix_tup (K := K) rfl) (pv 1) (pe_int) (fun _ _ => rfl)) (pa_cons (pv 3) pa_nil))) (nomark _))
          (pss_one (ps_ret (pe_and (pe_cmpR (k_op_in_seq (K := K) rfl) (pe_ix (k_ix_tup (K := K) rfl) (pv 1) (pe_int) (fun _ _ => rfl)) (pv 2) (by rfl)) (pe_one (pe_cmpR op_le (pe_op op_add (pe_ix (k_ix_tup (K := K) rfl) (pv 1) (pe_int) (fun _ _ => rfl)) (pv 8)) (pv 4) (nomark _))))))
          (pss_nil))))
      (pss_one (ps_ret (pe_bl))), ?_⟩
    refine ⟨_, rfl, ac, _, _, _, rfl, rfl, C.t, rfl, al, rfl, ⟨_, hL⟩, ?_⟩
    refine for_it (walk_tup (xs := xl)) (fun i σ H1 => Same H H1 ∧ (∃ v5 v6 v7 v8 v9, σ = [some (.ref ac), some (.ref a), some (.ref ai), some (.str r), some (.int b), v5, v6, v7, v8, v9]) ∧ ∀ (j : Nat) (l : Lane), j < i → c.lanes[j]? = some l → (decide (l.h = x.h) && decide (l.r = r)) = false)
      ⟨Same.refl _, ⟨_, _, _, _, _, rfl⟩, fun j l hj => absurd hj (Nat.not_lt_zero _)⟩ (fun i σ H1 _ p => same_t p.1 hL) (fun i y σ H1 H2 hi p hY => ?_) (fun σ H1 p => ?_)
    · obtain ⟨s1, ⟨v5, v6, v7, v8, v9, rfl⟩, hno⟩ := p
      obtain ⟨rfl, hx1⟩ := hY
      obtain ⟨d, hd1, hd2⟩ := hAL.get' hx1
      rw [List.getElem?_map] at hd1
      obtain ⟨l, hl, rfl⟩ := Option.map_eq_some_iff.mp hd1
      have hlm : l ∈ c.lanes := List.mem_of_getElem? hl
      have lo := ok.lanes l hlm
      obtain ⟨bl, rfl, hb⟩ := lane_at hd2
      refine ⟨bl, _, rfl, same_t s1 hb, rfl, _, _, rfl, _, _, rfl, _, _, rfl, _, _, rfl, _, _, rfl, rfl, ?_⟩
      refine ⟨_, rfl, _, rfl, by show 2 ≤ sizeLine; decide, fun q1 hq1 => ?_⟩
      have e1 := same_new (o := .tup [V.str l.h, .str l.r]) hq1
      have s2 := s1.trans e1
      refine ⟨_, rfl, a, _, _, _, rfl, rfl, same_t s2 hS, rfl, _, rfl, by show 2 ≤ sizeLine; decide, fun q2 hq2 => ?_⟩
      have e2 := same_new (o := .tup [V.str x.h, .str r]) hq2
      have s3 := s2.trans e2
      refine ⟨.tuple [.str l.h, .str l.r], .tuple [.str x.h, .str r], ?_, ?_, (pairD_sm lo.hn lo.rn).shaped, (pairD_sm hhn hr').shaped, _, rfl, ?_⟩
      · exact (Dp.tup (SqT.of upd_same) (.cons (.str _) (.cons (.str _) .nil)) : Dp K _ (.ref q1) (.tuple [.str l.h, .str l.r])).same e2
      · exact .tup (SqT.of upd_same) (.cons (.str _) (.cons (.str _) .nil))
      rw [pair_eqv lo.hn lo.rn hhn hr']
      by_cases e : (decide (l.h = x.h) && decide (l.r = r)) = true
      · have el : laneOf c x.h r = some l := find_some hl e fun j x hj q => hno j x hj q
        have q := k _ s3
        unfold serves at q
        rw [el] at q
        refine iteE e ⟨_, rfl, a, _, _, _, rfl, rfl, same_t s3 hS, rfl, _, rfl, ai, _, rfl, .inr (same_t s3 hI), rfl, flat_strs _, _, rfl, ?_⟩
        rw [is_str]
        refine ite2 (fun ei => ?_) fun ei => ?_
        · rw [ei, Bool.true_and] at q
          exact ⟨_, rfl, a, _, _, _, rfl, rfl, same_t s3 hS, rfl, _, rfl, _, _, rfl, rfl, _, rfl, _, _, rfl, rfl, q⟩
        · rw [Bool.eq_false_iff.mpr ei, Bool.false_and] at q
          exact q
      · refine iteEf (Bool.eq_false_iff.mpr e) ⟨s3, ⟨_, _, _, _, _, rfl⟩, fun j x hj q => ?_⟩
        by_cases ej : j = i
        · subst ej
          rw [hl] at q
          cases q
          exact Bool.eq_false_iff.mpr e
        · exact hno j x (by omega) q
    · obtain ⟨s1, ⟨v5, v6, v7, v8, v9, rfl⟩, hno⟩ := p
      have en : laneOf c x.h r = none := find_none fun j x q => hno j x (by have q2 := (List.getElem?_eq_some_iff.mp q).1; omega) q
      have q := k _ s1
      unfold serves at q
      rw [en, Bool.and_false] at q
      exact q
end
end KS
set_option Elab.async false
set_option linter.all false
set_option maxRecDepth 100000
set_option maxHeartbeats 8000000
set_option pp.maxSteps 400
/-! The law's over. -/
namespace KS
open PySem PySem.Spec PyProof.Rows L2
/-- a wish with names -/
structure FW.Nm (f : FW) : Prop where
  nn : nameOk f.n = true
  rn : nameOk f.r = true
  its : ∀ s ∈ f.its, nameOk s = true
theorem FW.Ok.nm {c : Cat} {f : FW} (h : f.Ok c) : f.Nm := ⟨h.nn, h.rn, h.names.2.2.1⟩
theorem FW.sm {f : FW} (h : f.Nm) : Sm f.d 3 :=
  Sm.tup (n := 2) (Sm.cons ((Sm.name h.nn).mono (by decide)) (Sm.cons ((Sm.int _).mono (by decide)) (Sm.cons (Sm.strs h.its) (Sm.cons ((Sm.name h.rn).mono (by decide)) (Sm.cons ((Sm.int _).mono (by decide)) (Sm.cons ((Sm.int _).mono (by decide)) Sm.nil))))))
theorem fm_filter2 {α β : Type} (p : α → Bool) (f : α → β) (l : List α) : (List.range l.length).filterMap (fun i => (l[i]?).bind fun x => if p x = true then some (f x) else none) = (l.filter p).map f := by
  rw [fm_get (xs := l) (f := fun x => if p x = true then some (f x) else none)]
  induction l with
  | nil => rfl
  | cons a r ih =>
    rw [List.filterMap_cons, List.filter_cons]
    by_cases h : p a = true
    · rw [if_pos h, if_pos h, List.map_cons, ih]
    · rw [if_neg h, if_neg h, ih]
theorem map_isEmpty_filter {α β : Type} (p : α → Bool) (f : α → β) (l : List α) : ((l.filter p).map f).isEmpty = !l.any p := by
  induction l with
  | nil => rfl
  | cons a r ih =>
    rw [List.filter_cons, List.any_cons]
    by_cases h : p a = true
    · rw [if_pos h, h]
      rfl
    · rw [if_neg h, ih, Bool.eq_false_iff.mpr h]
      rfl
section
variable {P : Program} {w : World} {K : PySem.W.Frag} {mg : Str → Option Value} {base : Heap}
def spOver (K : PySem.W.Frag) : Sp := fun vs H Q _ => ∃ (vc : V) (a : Addr) (xs : List V) (c : Cat) (lot : List FW), vs = [vc, .ref a] ∧ Dp K H vc c.d ∧ c.Ok ∧ SqL K H a xs ∧ DpAll K H xs (lot.map FW.d) ∧ lot.length ≤ 100 ∧ (∀ f ∈ lot, f.Nm) ∧
  ∀ H', Same H H' → Q (.int (over c lot)) H'
theorem sc_lover : FnScope ["_law_catalog_here", "_law_wishes_here", "_law_able_here", "_law_supply", "_law_wish"] ["_law_catalog_here", "_law_wishes_here"] (defScope (tp 59)) := ⟨rfl, rfl, rfl, by decide +kernel, rfl, by decide +kernel, by decide +kernel⟩
theorem ok_lover (T : Tx K mg) (d_law_fits : Ok P w K mg base CX0 1 "_law_fits" ["_law_catalog_here", "_law_supply", "_law_items", "_law_region", "_law_by"] (spServes K)) : Ok P w K mg base CX0 2 "_law_over" ["_law_catalog_here", "_law_wishes_here"] (spOver K) := by
  have sc := sc_lover
  refine Ok.mk_ (i := 59) T (by decide +kernel) sc (fun _ _ _ _ _ _ us hl => match us, hl with | [_, _], _ => rfl) (fun vs H Q E h => ?_) (fun f cdv A outer s H vs Q E hr h => ?_)
  · obtain ⟨vc, a, xs, c, lot, rfl, _⟩ := h
    rfl
  · obtain ⟨vc, a, xs, c, lot, rfl, hc, ok, hS, hA, hlen, hnm, k⟩ := h
    have hl := hA.length
    rw [List.length_map] at hl
    obtain ⟨ac, vh, vr, vit, vl, vs, rfl, C⟩ := cat_at hc
    obtain ⟨as, xu, rfl, hSu, hAS⟩ := Dp.tup_inv C.s
    have ls := hAS.length
    rw [List.length_map] at ls
    have lsn := ok.sn
    refine ⟨_, pss_cons (ps_set (i := 2) sc.nd rfl (Or.inl rfl) (pe_lst pa_nil))
      (pss_cons (ps_for PassesOwn.never rfl (pi_tup (pe_ix (k_ix_tup (K := K) rfl) (pv 0) (pe_int) (fun _ _ => rfl))) (pg_name (i := 3) sc.nd rfl (Or.inr rfl))
        (pss_one (ps_if (pt_cmpR (k_op_neD (K := K) rfl hr.units) (pe_lc (own := [("_law_wish", 4)]) rfl sc.nd (pi_list (pv 1)) (blkOk_by (own := [("_law_wish", 4)]) (N := ["_law_catalog_here", "_law_wishes_here", "_law_able_here", "_law_supply", "_law_wish"]) (sc := defScope (tp 59)) (by decide +kernel)) (fun _ _ _ _ _ => pg_name (i := 4) sc.nd rfl (Or.inl rfl)) (fun _ _ _ _ _ => pts_one (pt_val (pe_fn d_law_fits (hr.mono (by decide)) pass0 (pa_cons (pv 0) (pa_cons (pv 3) (pa_cons (pe_ix (k_ix_tup (K := K) rfl) (pv 4) (pe_int) (fun _ _ => rfl)) (pa_cons (pe_ix (k_ix_tup (K := K) rfl) (pv 4) (pe_int) (fun _ _ => rfl)) (pa_cons (pe_ix (k_ix_tup (K := K) rfl) (pv 4) (pe_int) (fun _ _ => rfl)) pa_nil)))))))) (fun _ _ _ _ _ => pv 4)) (pe_lst pa_nil) (nomark _))
          (pss_one (ps_expr (pe_bm PySem.F.plainAttrs_list PySem.F.slot_list_append PySem.F.type_list_append mt_append (pv 2) (pa_cons (pe_ix (k_ix_tup (K := K) rfl) (pv 3) (pe_int) (fun _ _ => rfl)) pa_nil))))
          (pss_nil))))
      (pss_one (ps_ret (pe_op op_sub (pe_callB (k_sum (K := K) rfl rfl) (by rfl) (T.free _ (by decide +kernel)) (by decide +kernel) (pa_cons (pe_lc (own := [("_law_wish", 4)]) rfl sc.nd (pi_list (pv 1)) (blkOk_by (own := [("_law_wish", 4)]) (N := ["_law_catalog_here", "_law_wishes_here", "_law_able_here", "_law_supply", "_law_wish"]) (sc := defScope (tp 59)) (by decide +kernel)) (fun _ _ _ _ _ => pg_name (i := 4) sc.nd rfl (Or.inl rfl)) (fun _ _ _ _ _ => pts_nil) (fun _ _ _ _ _ => pe_ix (k_ix_tup (K := K) rfl) (pv 4) (pe_int) (fun _ _ => rfl))) pa_nil)) (pe_callB (k_sum (K := K) rfl rfl) (by rfl) (T.free _ (by decide +kernel)) (by decide +kernel) (pa_cons (pv 2) pa_nil)))))), ?_⟩
    refine ⟨by show 0 ≤ sizeLine; decide, fun p hp => ?_⟩
    have s0 := same_new (o := .lst []) hp
    refine ⟨_, rfl, ac, _, _, _, rfl, rfl, same_t s0 C.t, rfl, as, rfl, ⟨_, same_t s0 hSu⟩, ?_⟩
    refine for_it (walk_tup (xs := xu)) (fun i σ H1 => ∃ (v3 v4 : Option V), σ = [some (.ref ac), some (.ref a), some (.ref p), v3, v4] ∧ Same H H1 ∧ H1 p = some (.lst ((((c.sups.take i).filter (fitsAny c lot)).map Sup.cnt).map V.int)))
      ⟨_, _, rfl, s0, upd_same⟩ (fun i σ H1 _ ⟨_, _, _, s1, _⟩ => same_t s1 hSu) ?_ ?_
    · rintro i y σ H1 H2 hi ⟨v3, v4, rfl, s1, hp1⟩ ⟨rfl, hx1⟩
      obtain ⟨d, hd1, hd2⟩ := hAS.get' hx1
      rw [List.getElem?_map] at hd1
      obtain ⟨x, hx, rfl⟩ := Option.map_eq_some_iff.mp hd1
      have hxm : x ∈ c.sups := List.mem_of_getElem? hx
      obtain ⟨b, rfl, hb⟩ := sup_at hd2
      refine ⟨_, rfl, a, rfl, ⟨_, s1.seq hS⟩, ?_⟩
      refine lc_dat (K := K) (walk_list (xs := xs)) (fun i => (lot[i]?).bind fun f => if serves c x f.its f.r f.by_ = true then some f.d else none) (fun j d _ e => ?_) (by omega) (fun H3 s3 => (s1.trans s3).seq hS) (fun j z H3 H4 Rn Ry hj s3 hY hn hy => ?_) (fun D acc H3 hD s3 h3 h3d => ?_)
      · obtain ⟨f, hf, e⟩ := Option.bind_eq_some_iff.mp e
        split at e
        · cases e
          exact FW.nl _
        · cases e
      · obtain ⟨rfl, hz⟩ := hY
        have s13 := s1.trans s3
        obtain ⟨d, hf1, hf2⟩ := hA.get' hz
        rw [List.getElem?_map] at hf1
        obtain ⟨f, hf, rfl⟩ := Option.map_eq_some_iff.mp hf1
        obtain ⟨bf, ai, rfl, hB, hI⟩ := fw_at (hf2.same s13)
        have fn := hnm f (List.mem_of_getElem? hf)
        rw [hf] at hn hy
        refine ⟨rfl, _, rfl, _, rfl, _, rfl, bf, _, _, _, rfl, rfl, hB, rfl, _, rfl, bf, _, _, _, rfl, rfl, hB, rfl, _, rfl, bf, _, _, _, rfl, rfl, hB, rfl, ?_⟩
        refine ⟨_, _, _, c, x, f.its, f.r, f.by_, rfl, hc.same s13, ok, hd2.same s13, hxm, hI, fn.rn, fun H5 s5 => ⟨_, rfl, ?_⟩⟩
        refine ite2 (fun e => ⟨_, rfl, hy f.d (if_pos e) _ _ s5 (hf2.same (s13.trans s5))⟩) fun e => hn (if_neg e) _ s5
      · rw [hl, fm_filter2] at h3d
        refine ⟨by show 0 ≤ sizeLine; decide, fun q hq => ?_⟩
        have sq := same_new (o := .lst []) hq
        have s4 := s3.trans sq
        refine ⟨.list ((lot.filter fun f => serves c x f.its f.r f.by_).map FW.d), .list [], ?_, ?_, (Sm.lst (n := 3) fun z hz => ?_).shaped, (Sm.lst (n := 1) Sm.nil).shaped, _, rfl, ?_⟩
        · exact .lst (SqL.of (sq _ _ h3)) (h3d.same sq)
        · exact .lst (SqL.of upd_same) .nil
        · obtain ⟨f, hf, rfl⟩ := List.mem_map.mp hz
          exact FW.sm (hnm f (List.mem_filter.mp hf).1)
        rw [eqv_nil, map_isEmpty_filter, Bool.not_not]
        have tk : (c.sups.take (i + 1)).filter (fitsAny c lot) = (c.sups.take i).filter (fitsAny c lot) ++ if fitsAny c lot x = true then [x] else [] := by
          rw [List.take_add_one, hx, List.filter_append]
          congr 1
          show List.filter (fitsAny c lot) [x] = _
          rw [List.filter_cons]
          rfl
        have s14 := s1.trans s4
        have hp4 := s4 _ _ hp1
        refine ite2 (fun e => ?_) fun e => ?_
        · have e : fitsAny c lot x = true := e
          rw [if_pos e] at tk
          have lf := List.length_filter_le (fitsAny c lot) (c.sups.take i)
          rw [List.length_take] at lf
          refine ⟨_, rfl, .inl ⟨rfl, _, SqL.of hp4⟩, _, rfl, b, _, _, _, rfl, rfl, same_t s14 hb, rfl, ?_⟩
          refine ⟨p, _, _, rfl, rfl, hp4, Nat.lt_of_le_of_lt (m := 100) (by rw [List.length_map, List.length_map]; omega) (by decide), ?_⟩
          refine ⟨_, _, rfl, same_mut s14 hp, ?_⟩
          rw [tk, List.map_append, List.map_append]
          exact upd_same
        · have e : ¬ fitsAny c lot x = true := e
          rw [if_neg e, List.append_nil] at tk
          refine ⟨_, _, rfl, s14, ?_⟩
          rw [tk]
          exact hp4
    · rintro σ H1 ⟨v3, v4, rfl, s1, hp1⟩
      rw [ls, List.take_length] at hp1
      refine ⟨_, rfl, a, rfl, ⟨_, s1.seq hS⟩, ?_⟩
      refine lc_gen (walk_list (xs := xs)) (fun i => lot[i]?.map fun f => .int f.cnt) (by omega) (fun H3 s3 => (s1.trans s3).seq hS) (fun j z H3 H4 Rn Ry hj s3 hY hn hy => ?_) (fun D H3 hD s3 h3 => ?_)
      · obtain ⟨rfl, hz⟩ := hY
        have s13 := s1.trans s3
        obtain ⟨d, hf1, hf2⟩ := hA.get' hz
        rw [List.getElem?_map] at hf1
        obtain ⟨f, hf, rfl⟩ := Option.map_eq_some_iff.mp hf1
        obtain ⟨bf, ai, rfl, hB, hI⟩ := fw_at (hf2.same s13)
        exact ⟨rfl, _, rfl, bf, _, _, _, rfl, rfl, hB, rfl, hy _ (by rw [hf]; rfl) _ (Same.refl _)⟩
      have ei : (List.range xs.length).filterMap (fun i => lot[i]?.map fun f => V.int f.cnt) = (lot.map FW.cnt).map V.int := by
        rw [hl, fm_get_map, List.map_map]
        rfl
      rw [ei] at h3
      refine ⟨D, _, rfl, SqL.of h3, ?_⟩
      refine ⟨_, rfl, p, _, rfl, SqL.of (s3 _ _ hp1), ?_⟩
      exact ⟨_, _, rfl, rfl, k _ (s1.trans s3)⟩
end
end KS
set_option Elab.async false
set_option linter.all false
set_option maxRecDepth 100000
set_option maxHeartbeats 8000000
set_option pp.maxSteps 400
/-! The law's lots. -/
namespace KS
open PySem PySem.Spec PyProof.Rows L2
def lotD (lot : List FW) : PyData := .list (lot.map FW.d)
theorem lots_len {α : Type} (l : List α) : (lots l).length = 2 ^ l.length := by
  refine snoc_ind (P := fun l => (lots l).length = 2 ^ l.length) rfl (fun l x ih => ?_) l
  rw [lots_snoc, List.length_append, List.length_map, ih, List.length_append, List.length_singleton, Nat.pow_succ]
  omega
theorem lots_sub {α : Type} {l lot : List α} (h : lot ∈ lots l) : (∀ x ∈ lot, x ∈ l) ∧ lot.length ≤ l.length := by
  obtain ⟨p, rfl⟩ := (mem_lots l lot).mp h
  refine ⟨fun x hx => ?_, ?_⟩
  · obtain ⟨i, _, e⟩ := mem_masked.mp hx
    exact List.mem_of_getElem? e
  · unfold masked
    exact Nat.le_trans (List.length_filterMap_le _ _) (by rw [List.length_range]; exact Nat.le_refl _)
section
variable {P : Program} {w : World} {K : PySem.W.Frag} {mg : Str → Option Value} {base : Heap}
/-- a lot of wishes: a plain list -/
def LotV (K : PySem.W.Frag) (H : Hp) (v : V) (lot : List FW) : Prop := ∃ a xs, v = .ref a ∧ H a = some (.lst xs) ∧ DpAll K H xs (lot.map FW.d)
theorem LotV.same {H H' : Hp} {v : V} {lot : List FW} (s : Same H H') (h : LotV K H v lot) : LotV K H' v lot := by
  obtain ⟨a, xs, e, h1, h2⟩ := h
  exact ⟨a, xs, e, s _ _ h1, h2.same s⟩
structure LotsV (K : PySem.W.Frag) (H : Hp) (ys : List V) (L : List (List FW)) : Prop where
  len : ys.length = L.length
  at_ : ∀ (i : Nat) (v : V) (lot : List FW), ys[i]? = some v → L[i]? = some lot → LotV K H v lot
theorem LotsV.same {H H' : Hp} {ys : List V} {L : List (List FW)} (s : Same H H') (h : LotsV K H ys L) : LotsV K H' ys L := ⟨h.len, fun i v lot a b => (h.at_ i v lot a b).same s⟩
theorem LotsV.append {H : Hp} {ys zs : List V} {L M : List (List FW)} (h : LotsV K H ys L) (q : LotsV K H zs M) : LotsV K H (ys ++ zs) (L ++ M) := by
  refine ⟨by rw [List.length_append, List.length_append, h.len, q.len], fun i v lot a b => ?_⟩
  by_cases hi : i < ys.length
  · rw [List.getElem?_append_left hi] at a
    rw [List.getElem?_append_left (by rw [← h.len]; exact hi)] at b
    exact h.at_ i v lot a b
  · rw [List.getElem?_append_right (by omega)] at a
    rw [List.getElem?_append_right (by rw [← h.len]; omega), ← h.len] at b
    exact q.at_ _ v lot a b
theorem LotsV.dp {H : Hp} : ∀ {ys : List V} {L : List (List FW)}, LotsV K H ys L → DpAll K H ys (L.map lotD)
  | [], [], _ => .nil
  | [], _ :: _, h => by cases h.len
  | _ :: _, [], h => by cases h.len
  | y :: ys, l :: L, h => by
    obtain ⟨a, xs, rfl, h1, h2⟩ := h.at_ 0 y l rfl rfl
    exact .cons (.lst (SqL.of h1) h2) (LotsV.dp ⟨Nat.succ.inj h.len, fun i v lot a b => h.at_ (i + 1) v lot a b⟩)
/-- a comprehension whose items stand elsewhere than the list that grows -/
theorem lc_far {J : It} {n : Nat} {G : Hp → Prop} {Y : Nat → Hp → V → Hp → Prop} {g : TG} {tt : TT} {te : TE} {vs : List Nat} {σ : L2.St} {H1 : Hp} {Qd : Addr → Hp → Prop} (w : Walk J n G Y) (R : Hp → V → Nat → Prop) (hR : ∀ {H H' : Hp} {v : V} {i : Nat}, Same H H' → R H v i → R H' v i) (hn : n ≤ 1000)
    (hG : ∀ H, Same H1 H → G H)
    (hs : ∀ (D : Addr) (i : Nat) (x : V) (H H' : Hp) (Rn : Hp → Prop) (Ry : V → Hp → Prop), i < n → H1 D = none → (∃ l, H D = some (.lst l)) → Same H1 H → Y i H x H' → (∀ y H4, Same H H4 → R (hid H4 D) y i → Ry y H4) →
      g x (wipe σ vs) H' fun σ2 H2 => wipe σ2 vs = wipe σ vs ∧ tt σ2 H2 fun b H3 => if b = true then te σ2 H3 Ry else Rn H3)
    (hd : ∀ D acc H, H1 D = none → Same H1 H → H D = some (.lst acc) → acc.length = n → (∀ i v, acc[i]? = some v → R H v i) → Qd D H) :
    ∀ D, H1 D = none → ∃ W : Nat → Nat → Hp → Prop, (∃ m, W 0 m (upd H1 D (.lst []))) ∧ ∀ i m H, W i m H →
      (J.stop i H ∧ Qd D H) ∨ (J.go i H ∧ ∃ Nx : Hp → Prop, (∀ H', Nx H' → ∃ m', m' < m ∧ W (i + 1) m' H') ∧ ∀ x H', J.yld i H x H' → g x (wipe σ vs) H' fun σ2 H2 => wipe σ2 vs = wipe σ vs ∧ tt σ2 H2 fun b H3 =>
        if b = true then te σ2 H3 fun y H4 => ∃ acc, H4 D = some (.lst acc) ∧ acc.length < sizeLine ∧ Nx (upd H4 D (.lst (acc ++ [y]))) else Nx H3) := by
  intro D hD
  refine lc_it w (Qd := Qd D) (fun i H => Same H1 H ∧ ∃ acc, H D = some (.lst acc) ∧ acc.length = i ∧ ∀ j v, acc[j]? = some v → R (hid H D) v j) ⟨same_new hD, [], upd_same, rfl, fun j v h => by (cases h)⟩ (fun i H _ p => hG H p.1) (fun i x H H' hi p hY => ?_) (fun H p => ?_)
  · obtain ⟨p1, acc, p2, pl, p3⟩ := p
    refine hs D i x H H' _ _ hi hD ⟨acc, p2⟩ p1 hY fun y H4 s4 hy => ?_
    refine ⟨acc, s4 _ _ p2, Nat.lt_of_le_of_lt (by omega : acc.length ≤ 1000) (by decide), same_mut (p1.trans s4) hD, acc ++ [y], upd_same, by rw [List.length_append, pl]; rfl, fun j v hj => ?_⟩
    have e : hid (upd H4 D (.lst (acc ++ [y]))) D = hid H4 D := by
      funext q
      by_cases h : q = D
      · rw [h, hid_at, hid_at]
      · rw [hid_ne h, hid_ne h, upd_ne h]
    rw [e]
    by_cases hj' : j < acc.length
    · rw [List.getElem?_append_left hj'] at hj
      exact hR (hid_mono (hid_same.trans s4)) (p3 j v hj)
    · rw [List.getElem?_append_right (by omega)] at hj
      have hj0 := (List.getElem?_eq_some_iff.mp hj).1
      rw [List.length_singleton] at hj0
      have ej : j = i := by omega
      have e0 : j - acc.length = 0 := by omega
      rw [e0] at hj
      cases hj
      rw [ej]
      exact hy
  · obtain ⟨p1, acc, p2, pl, p3⟩ := p
    exact hd D acc H hD p1 p2 pl fun i v h => hR hid_same (p3 i v h)
def spLots (K : PySem.W.Frag) : Sp := fun vs H Q _ => ∃ (a : Addr) (xs : List V) (ws : List FW), vs = [.ref a] ∧ SqL K H a xs ∧ DpAll K H xs (ws.map FW.d) ∧ ws.length ≤ 9 ∧
  ∀ (p : Addr) (ys : List V) (H' : Hp), Same H H' → H' p = some (.lst ys) → LotsV K H' ys (lots ws) → Q (.ref p) H'
theorem sc_lots : FnScope ["_law_things", "_law_lots_here", "_law_thing", "_law_lot"] ["_law_things"] (defScope (tp 60)) := ⟨rfl, rfl, rfl, by decide +kernel, rfl, by decide +kernel, by decide +kernel⟩
theorem ok_lots (T : Tx K mg) : Ok P w K mg base CX0 1 "_law_lots" ["_law_things"] (spLots K) := by
  have sc := sc_lots
  refine Ok.mk_ (i := 60) T (by decide +kernel) sc (fun _ _ _ _ _ _ us hl => match us, hl with | [_], _ => rfl) (fun vs H Q E h => ?_) (fun f cdv A outer s H vs Q E hr h => ?_)
  · obtain ⟨a, xs, ws, rfl, _⟩ := h
    rfl
  · obtain ⟨a, xs, ws, rfl, hS, hA, hlen, k⟩ := h
    have hl := hA.length
    rw [List.length_map] at hl
    refine ⟨_, pss_cons (ps_set (i := 1) sc.nd rfl (Or.inl rfl) (pe_lst (pa_cons (pe_lst pa_nil) pa_nil)))
      (pss_cons (ps_for PassesOwn.never rfl (pi_list (pv 0)) (pg_name (i := 2) sc.nd rfl (Or.inr rfl))
        (pss_one (ps_set (i := 1) sc.nd rfl (Or.inl rfl) (pe_op op_cat (pv 1) (pe_lc (own := [("_law_lot", 3)]) rfl sc.nd (pi_list (pv 1)) (blkOk_by (own := [("_law_lot", 3)]) (N := ["_law_things", "_law_lots_here", "_law_thing", "_law_lot"]) (sc := defScope (tp 60)) (by decide +kernel)) (fun _ _ _ _ _ => pg_name (i := 3) sc.nd rfl (Or.inl rfl)) (fun _ _ _ _ _ => pts_nil) (fun _ _ _ _ _ => pe_op op_cat (pv 3) (pe_lst (pa_cons (pv 2) pa_nil))))))))
      (pss_one (ps_ret (pv 1)))), ?_⟩
    refine ⟨by show 0 ≤ sizeLine; decide, fun p0 hp0 => ⟨by show 1 ≤ sizeLine; decide, fun p1 hp1 => ?_⟩⟩
    have s0 := same_new (o := .lst []) hp0
    have s1 := s0.trans (same_new (o := .lst [.ref p0]) hp1)
    refine ⟨_, rfl, a, rfl, ⟨_, s1.seq hS⟩, ?_⟩
    refine for_it (walk_list (xs := xs)) (fun i σ H1 => ∃ (p : Addr) (ys : List V) (v2 : Option V), σ = [some (.ref a), some (.ref p), v2, none] ∧ Same H H1 ∧ H1 p = some (.lst ys) ∧ LotsV K H1 ys (lots (ws.take i)))
      ⟨p1, _, none, rfl, s1, upd_same, ⟨rfl, fun i v lot a b => ?_⟩⟩ (fun i σ H1 _ ⟨_, _, _, _, s1, _⟩ => s1.seq hS) ?_ ?_
    · match i, a, b with
      | 0, a, b =>
        cases a
        cases b
        exact ⟨p0, [], rfl, same_new hp1 _ _ upd_same, .nil⟩
      | j + 1, a, _ => cases a
    · rintro i y σ H1 H2 hi ⟨p, ys, v2, rfl, s1, hp, hd⟩ ⟨rfl, hx⟩
      obtain ⟨d, hda, hdb⟩ := hA.get' hx
      rw [List.getElem?_map] at hda
      obtain ⟨f, hf, rfl⟩ := Option.map_eq_some_iff.mp hda
      have tk : lots (ws.take (i + 1)) = lots (ws.take i) ++ (lots (ws.take i)).map fun lot => lot ++ [f] := by
        rw [List.take_add_one, hf]
        exact lots_snoc _ _
      have ly := hd.len
      rw [lots_len, List.length_take] at ly
      have b256 : 2 ^ min i ws.length ≤ 2 ^ 8 := Nat.pow_le_pow_right (by decide) (by omega)
      have e8 : (2 : Nat) ^ 8 = 256 := rfl
      refine ⟨_, rfl, _, rfl, p, rfl, ⟨_, SqL.of hp⟩, ?_⟩
      refine lc_far (walk_list (xs := ys)) (fun H v j => ∀ lot, (lots (ws.take i))[j]? = some lot → LotV K H v (lot ++ [f])) (fun s h lot e => (h lot e).same s) (by omega) (fun H3 s3 => SqL.of (s3 _ _ hp)) (fun D j z H3 H4 Rn Ry hj hD hD2 s3 hY hy => ?_) (fun D acc H3 hD s3 h3 h3l h3d => ?_)
      · obtain ⟨rfl, hz⟩ := hY
        obtain ⟨lot, hlot⟩ : ∃ lot, (lots (ws.take i))[j]? = some lot := ⟨_, List.getElem?_eq_getElem (by rw [← hd.len]; exact hj)⟩
        obtain ⟨al, xl, rfl, hal, hxl⟩ := hd.at_ j _ _ hz hlot
        obtain ⟨lD, hlD⟩ := hD2
        have sh : Same H2 (hid H4 D) := fun q o e => by
          rw [hid_ne (ne_of_none e hD)]
          exact s3 q o e
        have ll := hxl.length
        rw [List.length_map] at ll
        have l9 := (lots_sub (List.mem_of_getElem? hlot)).2
        rw [List.length_take] at l9
        refine ⟨rfl, _, rfl, _, rfl, by show 1 ≤ sizeLine; decide, fun q hq => ?_⟩
        have sq := same_new (o := .lst [y]) hq
        refine ⟨al, q, xl, [y], rfl, rfl, sq _ _ (s3 _ _ hal), upd_same, Nat.le_trans (by rw [List.length_singleton]; omega : xl.length + [y].length ≤ 100) (by decide), fun t ht => ?_⟩
        have st := same_new (o := .lst (xl ++ [y])) ht
        have Dq : q ≠ D := (ne_of_none hlD hq).symm
        have Dt : t ≠ D := (ne_of_none (sq _ _ hlD) ht).symm
        have sh2 : Same H2 (hid (upd (upd _ q (.lst [y])) t (.lst (xl ++ [y]))) D) := fun u o e => by
          rw [hid_ne (ne_of_none e hD)]
          exact st _ _ (sq _ _ (s3 u o e))
        refine hy _ _ (sq.trans st) fun lot' e => ?_
        cases hlot.symm.trans e
        refine ⟨t, xl ++ [y], rfl, by rw [hid_ne Dt]; exact upd_same, ?_⟩
        rw [List.map_append]
        exact DpAll.append (hxl.same sh2) (.cons ((hdb.same s1).same sh2) .nil)
      · refine ⟨p, D, ys, acc, rfl, rfl, s3 _ _ hp, h3, Nat.le_trans (by omega : ys.length + acc.length ≤ 1000) (by decide), fun t ht => ?_⟩
        have st := same_new (o := .lst (ys ++ acc)) ht
        refine ⟨t, _, _, rfl, (s1.trans s3).trans st, upd_same, ?_⟩
        rw [tk]
        refine ((hd.same s3).append ⟨by rw [h3l, List.length_map, hd.len], fun j v lot a b => ?_⟩).same st
        rw [List.getElem?_map] at b
        obtain ⟨lot', hl', rfl⟩ := Option.map_eq_some_iff.mp b
        exact h3d j v a lot' hl'
    · rintro σ H1 ⟨p, ys, v2, rfl, s1, hp, hd⟩
      rw [hl, ← hl, hl, List.take_length] at hd
      exact ⟨_, rfl, k p ys H1 s1 hp hd⟩
end
end KS
set_option Elab.async false
set_option linter.all false
set_option maxRecDepth 100000
set_option maxHeartbeats 8000000
set_option pp.maxSteps 400
/-! The law's able, more. -/
namespace KS
open PySem PySem.Spec PyProof.Rows L2
theorem filter_dpG {α : Type} (d : α → PyData) {K : PySem.W.Frag} {H : Hp} (q : α → Bool) : ∀ {ys : List V} {os : List α}, DpAll K H ys (os.map d) → DpAll K H ((List.range ys.length).filterMap fun i => (os[i]?).bind fun o => if q o = true then ys[i]? else none) ((os.filter q).map d)
  | [], [], _ => .nil
  | [], _ :: _, h => by cases h
  | _ :: _, [], h => by cases h
  | y :: ys, o :: os, h => by
    cases h with
    | cons h1 h2 =>
      have ih := filter_dpG d q h2
      rw [List.length_cons, List.range_succ_eq_map, List.filterMap_cons, List.filterMap_map]
      have e : ((fun i : Nat => ((o :: os)[i]?).bind fun o' => if q o' = true then (y :: ys)[i]? else none) ∘ Nat.succ) = fun i => (os[i]?).bind fun o' => if q o' = true then ys[i]? else none := rfl
      rw [e]
      by_cases hq : q o = true
      · have e0 : ((o :: os)[0]?).bind (fun o' => if q o' = true then (y :: ys)[0]? else none) = some y := by
          show (if q o = true then some y else none) = some y
          rw [if_pos hq]
        rw [e0, List.filter_cons, if_pos hq, List.map_cons]
        exact .cons h1 ih
      · have e0 : ((o :: os)[0]?).bind (fun o' => if q o' = true then (y :: ys)[0]? else none) = none := by
          show (if q o = true then some y else none) = none
          rw [if_neg hq]
        rw [e0, List.filter_cons, if_neg hq]
        exact ih
section
variable {P : Program} {w : World} {K : PySem.W.Frag} {mg : Str → Option Value} {base : Heap}
def spAble (K : PySem.W.Frag) : Sp := fun vs H Q _ => ∃ (vc : V) (a : Addr) (xs : List V) (c : Cat) (os : List Order), vs = [vc, .ref a] ∧ Dp K H vc c.d ∧ c.Ok ∧ SqL K H a xs ∧ DpAll K H xs (os.map Order.d) ∧ os.length ≤ 13 ∧ (∀ o ∈ os, o.Ok c) ∧ (wishesOf os).length ≤ 9 ∧
  ∀ H', Same H H' → Q (.bl (ableB c (wishesOf os))) H'
theorem sc_able : FnScope ["_law_catalog_here", "_law_orders", "_law_lot"] ["_law_catalog_here", "_law_orders"] (defScope (tp 61)) := ⟨rfl, rfl, rfl, by decide +kernel, rfl, by decide +kernel, by decide +kernel⟩
theorem ok_able (T : Tx K mg) (d_law_wishes : Ok P w K mg base CX0 1 "_law_wishes" ["_law_orders"] (spWishesOf K)) (d_law_lots : Ok P w K mg base CX0 1 "_law_lots" ["_law_things"] (spLots K)) (d_law_over : Ok P w K mg base CX0 2 "_law_over" ["_law_catalog_here", "_law_wishes_here"] (spOver K)) :
    Ok P w K mg base CX0 3 "_law_able" ["_law_catalog_here", "_law_orders"] (spAble K) := by
  have sc := sc_able
  refine Ok.mk_ (i := 61) T (by decide +kernel) sc (fun _ _ _ _ _ _ us hl => match us, hl with | [_, _], _ => rfl) (fun vs H Q E h => ?_) (fun f cdv A outer s H vs Q E hr h => ?_)
  · obtain ⟨vc, a, xs, c, os, rfl, _⟩ := h
    rfl
  · obtain ⟨vc, a, xs, c, os, rfl, hc, ok, hS, hA, hlen, hos, h9, k⟩ := h
    have wok := wishes_ok hos
    refine ⟨_, pss_one (ps_ret (pe_cmpR (k_op_eqD (K := K) rfl hr.units) (pe_lc (own := [("_law_lot", 2)]) rfl sc.nd (pi_list (pe_fn d_law_lots (hr.mono (by decide)) pass0 (pa_cons (pe_fn d_law_wishes (hr.mono (by decide)) pass0 (pa_cons (pv 1) pa_nil)) pa_nil))) (blkOk_by (own := [("_law_lot", 2)]) (N := ["_law_catalog_here", "_law_orders", "_law_lot"]) (sc := defScope (tp 61)) (by decide +kernel)) (fun _ _ _ _ _ => pg_name (i := 2) sc.nd rfl (Or.inl rfl)) (fun _ _ _ _ _ => pts_one (pt_cmpR op_gt (pe_fn d_law_over (hr.mono (by decide)) pass0 (pa_cons (pv 0) (pa_cons (pv 2) pa_nil))) (pe_int) (nomark _))) (fun _ _ _ _ _ => pv 2)) (pe_lst pa_nil) (nomark _))), ?_⟩
    refine ⟨_, rfl, a, xs, os, rfl, hS, hA, hlen, fun o ho => (hos o ho).wn.2, fun p1 ys1 H1 s1 _ hp1 hd1 => ?_⟩
    refine ⟨p1, ys1, _, rfl, SqL.of hp1, hd1, h9, fun p ys H2 s2 hp hL => ?_⟩
    have s12 := s1.trans s2
    have ly := hL.len
    rw [lots_len] at ly
    have b9 : 2 ^ (wishesOf os).length ≤ 2 ^ 9 := Nat.pow_le_pow_right (by decide) h9
    have e9 : (2 : Nat) ^ 9 = 512 := rfl
    refine ⟨p, rfl, ⟨_, SqL.of hp⟩, ?_⟩
    have sub : ∀ lot ∈ lots (wishesOf os), (∀ f ∈ lot, f.Nm) ∧ lot.length ≤ 9 := fun lot h => ⟨fun f hf => (wok f ((lots_sub h).1 f hf)).nm, Nat.le_trans (lots_sub h).2 h9⟩
    refine lc_gen (walk_list (xs := ys)) (fun i => ((lots (wishesOf os))[i]?).bind fun lot => if decide (0 < over c lot) = true then ys[i]? else none) (by omega) (fun H3 s3 => SqL.of (s3 _ _ hp)) (fun j z H3 H4 Rn Ry hj s3 hY hn hy => ?_) (fun D H3 hD s3 h3 => ?_)
    · obtain ⟨rfl, hz⟩ := hY
      obtain ⟨lot, hlot⟩ : ∃ lot, (lots (wishesOf os))[j]? = some lot := ⟨_, List.getElem?_eq_getElem (by rw [← hL.len]; exact hj)⟩
      obtain ⟨al, xl, rfl, hal, hxl⟩ := hL.at_ j _ _ hz hlot
      have q := sub lot (List.mem_of_getElem? hlot)
      rw [hlot] at hn hy
      refine ⟨rfl, _, rfl, _, rfl, vc, al, xl, c, lot, rfl, hc.same (s12.trans s3), ok, SqL.of (s3 _ _ hal), hxl.same s3, by omega, q.1, fun H5 s5 => ⟨_, _, rfl, rfl, _, rfl, ?_⟩⟩
      refine ite2 (fun e => ⟨_, rfl, hy _ ?_ _ s5⟩) fun e => hn ?_ _ s5
      · show (if decide (0 < over c lot) = true then ys[j]? else none) = _
        rw [if_pos e]
        exact hz
      · show (if decide (0 < over c lot) = true then ys[j]? else none) = _
        rw [if_neg e]
    · refine ⟨by show 0 ≤ sizeLine; decide, fun q hq => ?_⟩
      have sq := same_new (o := .lst []) hq
      refine ⟨.list (((lots (wishesOf os)).filter fun lot => decide (0 < over c lot)).map lotD), .list [], .lst (SqL.of (sq _ _ h3)) (filter_dpG lotD _ (hL.dp.same (s3.trans sq))), .lst (SqL.of upd_same) .nil, (Sm.lst (n := 4) fun z hz => ?_).shaped, (Sm.lst (n := 1) Sm.nil).shaped, ?_⟩
      · obtain ⟨lot, hlot, rfl⟩ := List.mem_map.mp hz
        have hm := (sub lot (List.mem_filter.mp hlot).1).1
        exact Sm.lst (n := 3) fun z hz => by
          obtain ⟨f, hf, rfl⟩ := List.mem_map.mp hz
          exact FW.sm (hm f hf)
      rw [eqv_nil, map_isEmpty_filter]
      have e : (!(lots (wishesOf os)).any fun lot => decide (0 < over c lot)) = ableB c (wishesOf os) := by
        unfold ableB
        rw [List.not_any_eq_all_not]
        congr 1
        funext lot
        by_cases h : 0 < over c lot
        · rw [decide_eq_true h, decide_eq_false (by omega)]
          rfl
        · rw [decide_eq_false h, decide_eq_true (by omega)]
          rfl
      rw [e]
      exact k _ ((s12.trans s3).trans sq)
/-! ### more -/
def bestV : Option Int → V
  | none => .non
  | some k => .int k
def spMore (K : PySem.W.Frag) : Sp := fun vs H Q _ => ∃ (vc vi : V) (a : Addr) (xs : List V) (c : Cat) (os : List Order) (its : List Str) (r : Str) (b : Int), vs = [vc, .ref a, vi, .str r, .int b] ∧ Dp K H vc c.d ∧ c.Ok ∧ SqL K H a xs ∧ DpAll K H xs (os.map Order.d) ∧ os.length ≤ 13 ∧ (∀ o ∈ os, o.Ok c) ∧ (wishesOf os).length ≤ 9 ∧
  Dp K H vi (strsD its) ∧ (∀ s ∈ its, nameOk s = true) ∧ nameOk r = true ∧ ∀ H', Same H H' → Q (.int (moreV c (wishesOf os) its r b)) H'
theorem sc_lmore : FnScope ["_law_catalog_here", "_law_orders", "_law_items", "_law_region", "_law_by", "_law_best", "_law_lot", "_law_left"] ["_law_catalog_here", "_law_orders", "_law_items", "_law_region", "_law_by"] (defScope (tp 63)) := ⟨rfl, rfl, rfl, by decide +kernel, rfl, by decide +kernel, by decide +kernel⟩
theorem new_ok : nameOk "new" = true := by decide +kernel
theorem ok_lmore (T : Tx K mg) (d_law_wishes : Ok P w K mg base CX0 1 "_law_wishes" ["_law_orders"] (spWishesOf K)) (d_law_lots : Ok P w K mg base CX0 1 "_law_lots" ["_law_things"] (spLots K)) (d_law_over : Ok P w K mg base CX0 2 "_law_over" ["_law_catalog_here", "_law_wishes_here"] (spOver K)) :
    Ok P w K mg base CX0 3 "_law_more" ["_law_catalog_here", "_law_orders", "_law_items", "_law_region", "_law_by"] (spMore K) := by
  have sc := sc_lmore
  refine Ok.mk_ (i := 63) T (by decide +kernel) sc (fun _ _ _ _ _ _ us hl => match us, hl with | [_, _, _, _, _], _ => rfl) (fun vs H Q E h => ?_) (fun f cdv A outer s H vs Q E hr h => ?_)
  · obtain ⟨vc, vi, a, xs, c, os, its, r, b, rfl, _⟩ := h
    rfl
  · obtain ⟨vc, vi, a, xs, c, os, its, r, b, rfl, hc, ok, hS, hA, hlen, hos, h9, hvi, hin, hrn, k⟩ := h
    have wok := wishes_ok hos
    refine ⟨_, pss_cons (ps_set (i := 5) sc.nd rfl (Or.inl rfl) (pe_non))
      (pss_cons (ps_for PassesOwn.never rfl (pi_list (pe_fn d_law_lots (hr.mono (by decide)) pass0 (pa_cons (pe_fn d_law_wishes (hr.mono (by decide)) pass0 (pa_cons (pv 1) pa_nil)) pa_nil))) (pg_name (i := 6) sc.nd rfl (Or.inl rfl))
        (pss_cons (ps_set (i := 7) sc.nd rfl (Or.inl rfl) (pe_op op_sub (pe_int) (pe_fn d_law_over (hr.mono (by decide)) pass0 (pa_cons (pv 0) (pa_cons (pe_op op_cat (pv 6) (pe_lst (pa_cons (pe_tup (pa_cons (pe_str) (pa_cons (pe_int) (pa_cons (pv 2) (pa_cons (pv 3) (pa_cons (pe_int) (pa_cons (pv 4) pa_nil))))))) pa_nil))) pa_nil)))))
        (pss_one (ps_set (i := 5) sc.nd rfl (Or.inl rfl) (pe_ifExp (PW.pt (pw_or (pt_cmpR op_isN (pv 5) (pe_non) (nomark _)) (pw_or1 (pt_cmpR op_lt (pv 7) (pv 5) (nomark _))))) (pv 7) (pv 5))))))
      (pss_one (ps_ret (pv 5)))), ?_⟩
    refine ⟨_, rfl, a, xs, os, rfl, hS, hA, hlen, fun o ho => (hos o ho).wn.2, fun p1 ys1 H1 s1 _ hp1 hd1 => ?_⟩
    refine ⟨p1, ys1, _, rfl, SqL.of hp1, hd1, h9, fun p ys H2 s2 hp hL => ?_⟩
    have s12 := s1.trans s2
    have ly := hL.len
    refine ⟨p, rfl, ⟨_, SqL.of hp⟩, ?_⟩
    have sub : ∀ lot ∈ lots (wishesOf os), (∀ f ∈ lot, f.Nm) ∧ lot.length ≤ 9 := fun lot h => ⟨fun f hf => (wok f ((lots_sub h).1 f hf)).nm, Nat.le_trans (lots_sub h).2 h9⟩
    have nnm : (newF its r b).Nm := ⟨new_ok, hrn, hin⟩
    refine for_it (walk_list (xs := ys)) (fun i σ H3 => ∃ (v6 v7 : Option V), σ = [some vc, some (.ref a), some vi, some (.str r), some (.int b), some (bestV (((lefts c (wishesOf os) its r b).take i).foldl minStep none)), v6, v7] ∧ Same H2 H3)
      ⟨_, _, rfl, Same.refl _⟩ (fun i σ H3 _ ⟨_, _, _, s3⟩ => SqL.of (s3 _ _ hp)) ?_ ?_
    · rintro i y σ H3 H4 hi ⟨v6, v7, rfl, s3⟩ ⟨rfl, hz⟩
      obtain ⟨lot, hlot⟩ : ∃ lot, (lots (wishesOf os))[i]? = some lot := ⟨_, List.getElem?_eq_getElem (by rw [← hL.len]; exact hi)⟩
      obtain ⟨al, xl, rfl, hal, hxl⟩ := hL.at_ i _ _ hz hlot
      have q := sub lot (List.mem_of_getElem? hlot)
      have ll := hxl.length
      rw [List.length_map] at ll
      have lt : (lefts c (wishesOf os) its r b).take (i + 1) = (lefts c (wishesOf os) its r b).take i ++ [0 - over c (lot ++ [newF its r b])] := by
        rw [List.take_add_one]
        congr 1
        unfold lefts
        rw [List.getElem?_map, hlot]
        rfl
      have fl : ((lefts c (wishesOf os) its r b).take (i + 1)).foldl minStep none = minStep (((lefts c (wishesOf os) its r b).take i).foldl minStep none) (0 - over c (lot ++ [newF its r b])) := by
        rw [lt, List.foldl_append]
        rfl
      generalize ((lefts c (wishesOf os) its r b).take i).foldl minStep none = best at fl ⊢
      refine ⟨_, rfl, _, rfl, _, rfl, _, rfl, _, rfl, by show 6 ≤ sizeLine; decide, fun t ht => ⟨by show 1 ≤ sizeLine; decide, fun u hu => ?_⟩⟩
      have st := same_new (o := .tup [.str "new", .int 0, vi, .str r, .int 0, .int b]) ht
      have su := same_new (o := .lst [.ref t]) hu
      have stu := st.trans su
      refine ⟨al, u, xl, _, rfl, rfl, stu _ _ (s3 _ _ hal), upd_same, Nat.le_trans (by rw [List.length_singleton]; omega : xl.length + [V.ref t].length ≤ 100) (by decide), fun g hg => ?_⟩
      have sg := same_new (o := .lst (xl ++ [.ref t])) hg
      have s4 := stu.trans sg
      have s24 := s3.trans s4
      refine ⟨vc, g, _, c, lot ++ [newF its r b], rfl, hc.same (s12.trans s24), ok, SqL.of upd_same, ?_, by rw [List.length_append, List.length_singleton]; omega, fun f hf => ?_, fun H5 s5 => ?_⟩
      · rw [List.map_append]
        exact DpAll.append (hxl.same s24) (.cons (.tup (same_t (su.trans sg) (SqT.of upd_same)) (.cons (.str _) (.cons (.int _) (.cons (hvi.same (s12.trans s24)) (.cons (.str _) (.cons (.int _) (.cons (.int _) .nil))))))) .nil)
      · rcases List.mem_append.mp hf with h | h
        · exact q.1 f h
        · rw [List.mem_singleton.mp h]
          exact nnm
      have s25 := s24.trans s5
      refine ⟨_, _, rfl, rfl, ?_⟩
      cases best with
      | none =>
        refine ⟨_, rfl, rfl, _, rfl, iteD rfl (iteT ⟨_, rfl, some (.ref al), some (.int (0 - over c (lot ++ [newF its r b]))), ?_, s25⟩)⟩
        rw [fl]
        rfl
      | some y =>
        refine ⟨_, rfl, rfl, _, rfl, iteDn (fun e => by cases e) ?_⟩
        refine ⟨_, rfl, _, rfl, _, _, rfl, rfl, _, rfl, ite2 (fun e => ⟨_, rfl, some (.ref al), some (.int (0 - over c (lot ++ [newF its r b]))), ?_, s25⟩) fun e => ⟨_, rfl, some (.ref al), some (.int (0 - over c (lot ++ [newF its r b]))), ?_, s25⟩⟩
        · rw [fl]
          show _ = [_, _, _, _, _, some (bestV (some (if 0 - over c (lot ++ [newF its r b]) < y then 0 - over c (lot ++ [newF its r b]) else y))), _, _]
          rw [if_pos (of_decide_eq_true e)]
          rfl
        · rw [fl]
          show _ = [_, _, _, _, _, some (bestV (some (if 0 - over c (lot ++ [newF its r b]) < y then 0 - over c (lot ++ [newF its r b]) else y))), _, _]
          rw [if_neg (fun q => e (decide_eq_true q))]
          rfl
    · rintro σ H3 ⟨v6, v7, rfl, s3⟩
      have e : bestV (((lefts c (wishesOf os) its r b).take ys.length).foldl minStep none) = .int (moreV c (wishesOf os) its r b) := by
        have el : ys.length = (lefts c (wishesOf os) its r b).length := by
          unfold lefts
          rw [List.length_map]
          exact ly
        rw [el, List.take_length]
        have hk : (lefts c (wishesOf os) its r b).foldl minStep none = some (moreV c (wishesOf os) its r b) := (more_ex c (wishesOf os) its r b).1
        rw [hk]
        rfl
      rw [e]
      exact ⟨_, rfl, k _ (s12.trans s3)⟩
end
end KS
set_option Elab.async false
set_option linter.all false
set_option maxRecDepth 100000
set_option maxHeartbeats 4000000
set_option pp.maxSteps 400
/-! The plan, in plain Lean: what the sends take of the supplies and give to the wishes. -/
namespace KS
open PySem PySem.Spec PyProof.Rows L2
section
variable (c : Cat) (ws : List FW) (g : Nat → Nat → Int)
/-- the sends, each with the places of its wish and its supply -/
def PLu (u k : Nat) : List ((Nat × Nat) × Send) := (List.range k).filterMap fun s => (sendsAt c ws g u s).map fun x => ((u, s), x)
def PLm (m : Nat) : List ((Nat × Nat) × Send) := (List.range m).flatMap fun u => PLu c ws g u c.sups.length
def PL : List ((Nat × Nat) × Send) := PLm c ws g ws.length
def takeS (l : List ((Nat × Nat) × Send)) (s : Nat) : Int := (l.map fun e => if e.1.2 = s then e.2.cnt else 0).sum
def takeU (l : List ((Nat × Nat) × Send)) (u : Nat) : Int := (l.map fun e => if e.1.1 = u then e.2.cnt else 0).sum
theorem PLu_succ (u k : Nat) : PLu c ws g u (k + 1) = PLu c ws g u k ++ ((sendsAt c ws g u k).map fun x => ((u, k), x)).toList := range_fm_succ _ _
theorem PLm_succ (m : Nat) : PLm c ws g (m + 1) = PLm c ws g m ++ PLu c ws g m c.sups.length := by
  unfold PLm
  rw [List.range_succ, List.flatMap_append]
  simp
theorem PL_map : (PL c ws g).map (·.2) = sendsOf c ws g := by
  unfold PL PLm sendsOf sendsTo PLu sendsU
  rw [List.map_flatMap]
  congr 1
  funext u
  rw [List.map_filterMap]
  congr 1
  funext s
  cases sendsAt c ws g u s <;> rfl
theorem sendsAt_some {u s : Nat} {x : Send} (h : sendsAt c ws g u s = some x) : ∃ f y, ws[u]? = some f ∧ c.sups[s]? = some y ∧ 0 < g s u ∧ x = ⟨f.n, f.at_, y.n, g s u⟩ := by
  unfold sendsAt at h
  split at h
  · rename_i f y h1 h2
    split at h
    · rename_i h3
      cases h
      exact ⟨f, y, h1, h2, h3, rfl⟩
    · cases h
  · cases h
theorem PL_mem {e : (Nat × Nat) × Send} (h : e ∈ PL c ws g) : sendsAt c ws g e.1.1 e.1.2 = some e.2 := by
  unfold PL PLm PLu at h
  obtain ⟨u, _, h⟩ := List.mem_flatMap.mp h
  obtain ⟨s, _, h⟩ := List.mem_filterMap.mp h
  obtain ⟨x, h1, rfl⟩ := Option.map_eq_some_iff.mp h
  exact h1
theorem PLu_fst (u k : Nat) : ∀ e ∈ PLu c ws g u k, e.1.1 = u ∧ e.1.2 < k := fun e h => by
  unfold PLu at h
  obtain ⟨s, hs, h⟩ := List.mem_filterMap.mp h
  obtain ⟨x, h1, rfl⟩ := Option.map_eq_some_iff.mp h
  exact ⟨rfl, List.mem_range.mp hs⟩
theorem PLu_nd (u : Nat) : ∀ k, ((PLu c ws g u k).map (·.1)).Nodup
  | 0 => List.nodup_nil
  | k + 1 => by
    rw [PLu_succ, List.map_append, List.nodup_append]
    refine ⟨PLu_nd u k, ?_, fun a ha b hb e => ?_⟩
    · cases sendsAt c ws g u k <;> simp
    · obtain ⟨e1, h1, rfl⟩ := List.mem_map.mp ha
      obtain ⟨e2, h2, rfl⟩ := List.mem_map.mp hb
      have q := (PLu_fst c ws g u k e1 h1).2
      cases hx : sendsAt c ws g u k with
      | none => rw [hx] at h2; cases h2
      | some x =>
        rw [hx] at h2
        cases List.mem_singleton.mp h2
        rw [e] at q
        exact Nat.lt_irrefl _ q
theorem PLm_fst : ∀ m, ∀ e ∈ PLm c ws g m, e.1.1 < m := fun m e h => by
  unfold PLm at h
  obtain ⟨u, hu, h⟩ := List.mem_flatMap.mp h
  rw [(PLu_fst c ws g u _ e h).1]
  exact List.mem_range.mp hu
theorem PLm_nd : ∀ m, ((PLm c ws g m).map (·.1)).Nodup
  | 0 => List.nodup_nil
  | m + 1 => by
    rw [PLm_succ, List.map_append, List.nodup_append]
    refine ⟨PLm_nd m, PLu_nd c ws g m _, fun a ha b hb e => ?_⟩
    obtain ⟨e1, h1, rfl⟩ := List.mem_map.mp ha
    obtain ⟨e2, h2, rfl⟩ := List.mem_map.mp hb
    have q1 := PLm_fst c ws g m e1 h1
    have q2 := (PLu_fst c ws g m _ e2 h2).1
    rw [e, q2] at q1
    exact Nat.lt_irrefl _ q1
variable {c ws g}
theorem take_app (f : (Nat × Nat) × Send → Int) (l m : List ((Nat × Nat) × Send)) : ((l ++ m).map f).sum = (l.map f).sum + (m.map f).sum := by
  rw [List.map_append, List.sum_append]
theorem tU_one (g0 : ∀ s u, 0 ≤ g s u) {u v : Nat} (hu : u < ws.length) : ∀ k, k ≤ c.sups.length → takeU (PLu c ws g u k) v = if u = v then KF.sumR k (fun s => g s u) else 0
  | 0, _ => by
    show (0 : Int) = _
    split <;> rfl
  | k + 1, hk => by
    have ih := tU_one g0 (v := v) hu k (by omega)
    unfold takeU at ih ⊢
    rw [PLu_succ, take_app, ih]
    have e1 : ((((sendsAt c ws g u k).map fun x => ((u, k), x)).toList).map fun e => if e.1.1 = v then e.2.cnt else 0).sum = if u = v then g k u else 0 := by
      cases hx : sendsAt c ws g u k with
      | some x =>
        obtain ⟨f, y, _, _, _, rfl⟩ := sendsAt_some c ws g hx
        simp
      | none =>
        have z : g k u = 0 := by
          have n := g0 k u
          rcases Int.lt_or_eq_of_le n with q | q
          · exfalso
            unfold sendsAt at hx
            rw [List.getElem?_eq_getElem hu, List.getElem?_eq_getElem (by omega : k < c.sups.length)] at hx
            simp [q] at hx
          · exact q.symm
        rw [z]
        simp
    rw [e1]
    by_cases h : u = v
    · rw [if_pos h, if_pos h, if_pos h]
      rfl
    · rw [if_neg h, if_neg h, if_neg h]
      rfl
theorem tS_one (g0 : ∀ s u, 0 ≤ g s u) {u t : Nat} (hu : u < ws.length) : ∀ k, k ≤ c.sups.length → takeS (PLu c ws g u k) t = if t < k then g t u else 0
  | 0, _ => by
    show (0 : Int) = _
    rw [if_neg (Nat.not_lt_zero _)]
  | k + 1, hk => by
    have ih := tS_one g0 (t := t) hu k (by omega)
    unfold takeS at ih ⊢
    rw [PLu_succ, take_app, ih]
    have e1 : ((((sendsAt c ws g u k).map fun x => ((u, k), x)).toList).map fun e => if e.1.2 = t then e.2.cnt else 0).sum = if k = t then g k u else 0 := by
      cases hx : sendsAt c ws g u k with
      | some x =>
        obtain ⟨f, y, _, _, _, rfl⟩ := sendsAt_some c ws g hx
        simp
      | none =>
        have z : g k u = 0 := by
          have n := g0 k u
          rcases Int.lt_or_eq_of_le n with q | q
          · exfalso
            unfold sendsAt at hx
            rw [List.getElem?_eq_getElem hu, List.getElem?_eq_getElem (by omega : k < c.sups.length)] at hx
            simp [q] at hx
          · exact q.symm
        rw [z]
        simp
    rw [e1]
    by_cases h : k = t
    · subst h
      rw [if_neg (Nat.lt_irrefl _), if_pos rfl, if_pos (Nat.lt_succ_self _)]
      omega
    · rw [if_neg h]
      by_cases q : t < k
      · rw [if_pos q, if_pos (by omega)]
        omega
      · rw [if_neg q, if_neg (by omega)]
        rfl
theorem takeS_all (g0 : ∀ s u, 0 ≤ g s u) {s : Nat} (hs : s < c.sups.length) : ∀ m, m ≤ ws.length → takeS (PLm c ws g m) s = KF.sumR m fun u => g s u
  | 0, _ => rfl
  | m + 1, hm => by
    have ih := takeS_all g0 hs m (by omega)
    have q := tS_one g0 (t := s) (by omega : m < ws.length) c.sups.length (Nat.le_refl _)
    unfold takeS at ih q ⊢
    rw [PLm_succ, take_app, ih, q, if_pos hs]
    rfl
theorem takeU_all (g0 : ∀ s u, 0 ≤ g s u) {u : Nat} : ∀ m, m ≤ ws.length → takeU (PLm c ws g m) u = if u < m then KF.sumR c.sups.length (fun s => g s u) else 0
  | 0, _ => by
    rw [if_neg (Nat.not_lt_zero _)]
    rfl
  | m + 1, hm => by
    have ih := takeU_all g0 (u := u) m (by omega)
    have q := tU_one g0 (v := u) (by omega : m < ws.length) c.sups.length (Nat.le_refl _)
    unfold takeU at ih q ⊢
    rw [PLm_succ, take_app, ih, q]
    by_cases h : m = u
    · subst h
      rw [if_neg (Nat.lt_irrefl _), if_pos rfl, if_pos (Nat.lt_succ_self _)]
      omega
    · rw [if_neg h]
      by_cases z : u < m
      · rw [if_pos z, if_pos (by omega)]
        omega
      · rw [if_neg z, if_neg (by omega)]
        rfl
end
/-- wishes of orders with unlike names bear unlike keys -/
def FW.key (f : FW) : Str × Nat := (f.n, f.at_)
theorem wishes_nd {os : List Order} (h : (os.map Order.n).Nodup) : ((wishesOf os).map FW.key).Nodup := by
  induction os with
  | nil => exact List.nodup_nil
  | cons o os ih =>
    rw [List.map_cons, List.nodup_cons] at h
    show ((wishesOf1 o ++ wishesOf os).map FW.key).Nodup
    rw [List.map_append, List.nodup_append]
    refine ⟨?_, ih h.2, fun a ha b hb e => ?_⟩
    · unfold wishesOf1
      rw [List.nodup_iff_pairwise_ne, List.pairwise_iff_getElem]
      intro i j hi hj hij e
      simp only [List.getElem_map, List.getElem_mapIdx] at e
      have q := congrArg Prod.snd e
      exact absurd q (Nat.ne_of_lt hij)
    · obtain ⟨f, hf, rfl⟩ := List.mem_map.mp ha
      obtain ⟨f2, hf2, rfl⟩ := List.mem_map.mp hb
      obtain ⟨o2, ho2, i, x, _, rfl⟩ := wishes_mem hf2
      unfold wishesOf1 at hf
      obtain ⟨k, hk, e1⟩ := List.mem_iff_getElem.mp hf
      rw [List.getElem_mapIdx] at e1
      subst e1
      have q : o.n = o2.n := congrArg Prod.fst e
      exact h.1 (by rw [q]; exact List.mem_map_of_mem ho2)
end KS
set_option Elab.async false
set_option linter.all false
set_option maxRecDepth 100000
set_option maxHeartbeats 8000000
set_option pp.maxSteps 400
/-! Sets of tuples of whole numbers and texts, unlike one another: len(set(xs)). The probing is the library's (HandS.TupSets); here what it asks of tuples, and a table whose elements are such tuples. -/
namespace KS
open PySem PySem.Spec PyProof.Rows L2
namespace Tt
section
variable {P : Program} {w : World} {A : Around} {E : Value → Shared → Prop} {s : Shared}
abbrev mh (P : Program) (w : World) (k : List Key) : Int := tupleKeyHash (mixKind P w) k
abbrev IsM (P : Program) (w : World) (h : Heap) (k : List Key) (a : Addr) : Prop := IsTupleKey (mixKind P w) h k a
/-- what a search asks of a whole number, of a text -/
def Plain (v : Value) : Prop := (∀ n, ofAClassStatement n v = pure false) ∧ ∀ n, ∃ b, hashByValue n v = pure b
theorem plain_item {k : Key} {v : Value} (h : (mixKind P w).is k v = true) : Plain v := by
  cases v with
  | int i t => exact ⟨fun n => by cases n <;> rfl, fun n => ⟨true, by cases n <;> rfl⟩⟩
  | str x t => exact ⟨fun n => by cases n <;> rfl, fun n => ⟨false, by cases n <;> rfl⟩⟩
  | _ => cases k <;> cases h
theorem plain_items {ks : List Key} {vs : List Value} (h : ItemsAre (mixKind P w) ks vs) : ∀ v ∈ vs, Plain v := by
  induction h with
  | nil => exact fun v q => by cases q
  | cons a _ ih => exact fun v q => (List.mem_cons.mp q).elim (fun e => e ▸ plain_item a) (ih v)
theorem class_not {k : List Key} {b : Addr} {Q : Bool → Shared → Prop} (hk : IsM P w s.heap k b) (q : Q false s) : wpAny (model P w) A (ofAClassStatement 8 (.ref b)) Q E s := by
  have ty := hk.typeIs
  obtain ⟨o, its, n, ho, _, hd, hi⟩ := hk
  unfold ofAClassStatement
  refine wpAny_bind (wpAny_typeOf ty ?_)
  have tt : (("tuple" : String) == "tuple") = true := by decide
  simp only [tt, if_true, Bool.not_true, Bool.false_eq_true, if_false]
  refine wpAny_bind (wpAny_pure ?_)
  simp only [Bool.not_true, Bool.false_eq_true, if_false]
  refine wpAny_bind (wpAny_seqItems ho hd ?_)
  refine wpAny_bind ?_
  rw [← Array.forIn_toList]
  refine wpAny_forIn_list _ (fun rest r z => z = s ∧ r.1 = none ∧ ∀ v ∈ rest, Plain v) _ ?_ ?_ _ _ ⟨rfl, rfl, plain_items hi⟩
  · rintro v rest r z ⟨rfl, hr, all⟩
    rw [(all v List.mem_cons_self).1]
    refine wpAny_bind (wpAny_pure ?_)
    simp only [Bool.false_eq_true, if_false]
    exact wpAny_pure ⟨rfl, rfl, fun u hu => all u (List.mem_cons_of_mem _ hu)⟩
  · rintro ⟨r1, r2⟩ z ⟨rfl, hr, _⟩
    cases (show r1 = none from hr)
    exact wpAny_pure q
theorem by_value {k : List Key} {b : Addr} {Q : Bool → Shared → Prop} (hk : IsM P w s.heap k b) (q : ∀ y, Q y s) : wpAny (model P w) A (hashByValue 8 (.ref b)) Q E s := by
  have ty := hk.typeIs
  obtain ⟨o, its, n, ho, _, hd, hi⟩ := hk
  unfold hashByValue
  refine wpAny_bind (wpAny_specialOf ty F.slot_tuple_hash.lookup ?_)
  refine wpAny_bind (wpAny_seqItems ho hd ?_)
  refine wpAny_bind ?_
  rw [← Array.forIn_toList]
  refine wpAny_forIn_list _ (fun rest r z => z = s ∧ ∀ v ∈ rest, Plain v) _ ?_ ?_ _ _ ⟨rfl, plain_items hi⟩
  · rintro v rest r z ⟨rfl, all⟩
    obtain ⟨y, e⟩ := (all v List.mem_cons_self).2 7
    rw [e]
    refine wpAny_bind (wpAny_pure ?_)
    cases y with
    | true => exact wpAny_pure ⟨rfl, fun u hu => all u (List.mem_cons_of_mem _ hu)⟩
    | false =>
      refine wpAny_pure ?_
      exact wpAny_pure (q _)
  · rintro ⟨r1, r2⟩ z ⟨rfl, _⟩
    cases r1 with
    | none => exact wpAny_pure (q _)
    | some y => exact wpAny_pure (q _)
/-- a search among such tuples shows nothing -/
theorem not_seen {k : List Key} {b : Addr} {Q : Bool → Shared → Prop} (hk : IsM P w s.heap k b) {ys : List Value} (hy : ∀ y ∈ ys, ∃ c k', IsM P w s.heap k' c ∧ y = Value.ref c) (q : Q false s) :
    wpAny (model P w) A (searchCouldBeSeen (.ref b) ys) Q E s := by
  unfold searchCouldBeSeen
  refine wpAny_bind (wpAny_forIn_list _ (fun rest r z => z = s ∧ r.1 = none ∧ ∀ y ∈ rest, ∃ c k', IsM P w s.heap k' c ∧ y = Value.ref c) _ ?_ ?_ _ _ ⟨rfl, rfl, hy⟩)
  · rintro v rest r z ⟨rfl, hr, all⟩
    obtain ⟨c, k', hc, rfl⟩ := all v List.mem_cons_self
    have more : ∀ y ∈ rest, ∃ c k', IsM P w z.heap k' c ∧ y = Value.ref c := fun y hy => all y (List.mem_cons_of_mem _ hy)
    dsimp only
    by_cases e : (b == c || (carriedByValue (.ref b) && carriedByValue (.ref c))) = true
    · exact wp_if_pos e (wpAny_pure ⟨rfl, rfl, more⟩)
    · refine wp_if_neg e (wpAny_bind (wpAny_eqIsQuiet_tuple hk ?_))
      simp only [Bool.not_true, Bool.false_eq_true, if_false]
      refine wpAny_bind (wpAny_eqIsQuiet_tuple hc ?_)
      simp only [Bool.not_true, Bool.false_eq_true, if_false]
      refine wpAny_bind (class_not hk ?_)
      simp only [Bool.false_eq_true, if_false]
      refine wpAny_bind (class_not hc ?_)
      simp only [Bool.false_eq_true, if_false]
      exact wpAny_pure ⟨rfl, rfl, more⟩
  · rintro ⟨r1, r2⟩ z ⟨rfl, hr, _⟩
    cases (show r1 = none from hr)
    exact wpAny_pure q
/-! ### the table of such tuples -/
abbrev Kt := List Key × Addr
def rowM (P : Program) (w : World) (p : Kt) : Int × Value := (mh P w p.1, Value.ref p.2)
structure TS (P : Program) (w : World) (h : Heap) (a : Addr) (R : List Kt) (es : Array (Int × Value)) (ep : Nat) (t : SetTable) : Prop where
  ob : ∃ o, h.get? a = some o ∧ o.ExactSet ∧ o.data = .set es ep t
  rw : es.toList = R.map (rowM P w)
  tb : TabOk t (R.map fun p => mh P w p.1)
  tu : ∀ p ∈ R, IsM P w h p.1 p.2
  rm : 5 * R.length < 3 * t.mask
  fw : R.length ≤ 60
variable {a : Addr} {R : List Kt} {es : Array (Int × Value)} {ep : Nat} {t : SetTable}
theorem TS.sz (T : TS P w s.heap a R es ep t) : es.size = R.length := by
  rw [← Array.length_toList, T.rw, List.length_map]
theorem TS.pz (T : TS P w s.heap a R es ep t) : t.place.size = R.length := by
  rw [T.tb.sz, List.length_map]
theorem fits_of {n : Nat} {t : SetTable} (h1 : t.place.size = n) (h2 : t.dummies = #[]) (h3 : n ≤ t.mask) : t.fits n = true := by
  unfold SetTable.fits SetTable.fill
  rw [h2, h1]
  simp [h3]
theorem TS.ft (T : TS P w s.heap a R es ep t) : t.fits es.size = true := fits_of (T.pz.trans T.sz.symm) T.tb.dm (by have := T.rm; have := T.sz; omega)
theorem TS.en (T : TS P w s.heap a R es ep t) {i : Nat} {p : Kt} (h : R[i]? = some p) : es[i]? = some (rowM P w p) := by
  rw [← Array.getElem?_toList, T.rw, List.getElem?_map, h]
  rfl
theorem TS.go (T : TS P w s.heap a R es ep t) : ¬ t.gaveWay = true := by
  unfold SetTable.gaveWay
  rw [mask_odd T.tb.mok]
  decide
/-- the c-th probe of a hash -/
abbrev prb (m : Nat) (h : Int) (c : Nat) : SetTable.Probe := nth m (runAt m (SetTable.bits h % (m + 1)) (SetTable.bits h)) c
theorem prb_add (m : Nat) (h : Int) (c q : Nat) : nth m (prb m h c) q = prb m h (c + q) := (nth_add m c _ q).symm
theorem prb_dummy (m : Nat) (h : Int) (c : Nat) : (prb m h c).dummy = none := by
  have key : ∀ (n : Nat) (p : SetTable.Probe), p.dummy = none → (nth m p n).dummy = none := fun n => by
    induction n with
    | zero => exact fun p q => q
    | succ n ih =>
      intro p q
      refine ih (adv m p) ?_
      unfold adv
      split
      · exact q
      · exact q
  exact key c _ rfl
/-- THE SEARCH for a tuple that is not there, from the c-th probe on -/
theorem search {k : List Key} {x : Addr} {K : Nat} (T : TS P w s.heap a R es ep t) (hx : IsM P w s.heap k x) (hu : A.units < cLine) (new : ∀ p ∈ R, p.1 ≠ k) (hK : K < 10 * SetTable.turns t.mask) (free : way t.mask (mh P w k) K ∉ t.place.toList)
    (full : ∀ c, c < K → way t.mask (mh P w k) c ∈ t.place.toList) {Q : SetFound → Shared → Prop} (q : Q (.free (way t.mask (mh P w k) K) false) s) :
    ∀ (f c : Nat) (st : Option SetTable.Probe), st.getD (t.probeStart (mh P w k)) = prb t.mask (mh P w k) c → c ≤ K → K < f + c → wpAny (model P w) A (setSearchFrom a (.ref x) (mh P w k) true f st) Q E s := by
  obtain ⟨o, ho, hex, hd⟩ := T.ob
  intro f
  induction f with
  | zero => exact fun c st _ h1 h2 => absurd h2 (by omega)
  | succ f ih =>
    intro c st hst hc hf
    rw [setSearchFrom_succ]
    refine wpAny_bind (wpAny_setState_of ho hd T.ft ?_)
    dsimp only
    refine wp_if_neg T.go (wpAny_bind (wpAny_pure ?_))
    have spec := go_spec t T.tb.ris T.tb.dm (fun i => (es[i]?.map (·.1)).getD 0) (mh P w k) (10 * SetTable.turns t.mask) (K - c) _ (prb_dummy t.mask (mh P w k) c) (by omega)
      (fun u hu => by rw [prb_add]; exact full (c + u) (by omega)) (by rw [prb_add, Nat.add_sub_cancel' hc]; exact free)
    have probes : ∀ {r}, SetTable.probe.go t (fun i => (es[i]?.map (·.1)).getD 0) (mh P w k) (10 * SetTable.turns t.mask) (prb t.mask (mh P w k) c) = r → t.probe (fun i => (es[i]?.map (·.1)).getD 0) (mh P w k) (st.getD (t.probeStart (mh P w k))) = r := fun e => by
      rw [hst]
      exact e
    rcases spec with ⟨u, i, hu1, hi, _, _, e⟩ | ⟨_, e⟩
    · rw [probes e]
      dsimp only
      rw [prb_add] at hi ⊢
      rw [prb_add]
      have il : i < R.length := by
        have z := (List.getElem?_eq_some_iff.mp hi).1
        rw [Array.length_toList, T.pz] at z
        exact z
      have hp := List.getElem?_eq_getElem il
      have hm : R[i] ∈ R := List.getElem_mem il
      generalize R[i] = p at hp hm
      have np : p.1 ≠ k := new p hm
      have live : t.slot (way t.mask (mh P w k) (c + u)) = .live i := slot_live T.tb.ris hi
      have rest : wpAny (model P w) A (searchRest a (.ref x) (mh P w k) true f es t (way t.mask (mh P w k) (c + u)) i (prb t.mask (mh P w k) (c + (u + 1)))) Q E s := by
        unfold searchRest
        rw [T.en hp]
        unfold rowM
        dsimp only
        refine wpAny_bind (wpAny_holding (wpAny_eqBool_tuple hu (T.tu p hm) hx (wpAny_bind (wpAny_setState_of ho hd T.ft ?_))))
        dsimp only
        refine wp_if_neg (by simp [np]) (wpAny_bind (wpAny_pure ?_))
        rw [sameMem]
        simp only [if_true, live, T.en hp]
        unfold rowM
        refine wpAny_bind (wpAny_isSame_ref_self (wpAny_bind (wpAny_pure ?_)))
        simp only [if_true]
        exact wp_if_neg (by simp [np]) (ih (c + (u + 1)) _ rfl (by omega) (by omega))
      by_cases hl : t.led = true
      · exact wp_if_neg (by simp [hl]) (wpAny_bind (wpAny_pure rest))
      · refine wp_if_pos (by simp [hl]) (wpAny_bind (not_seen hx (fun y hy => ?_) (wp_if_neg (by decide) (wpAny_bind (wpAny_pure rest)))))
        obtain ⟨z, hz, rfl⟩ := List.mem_map.mp hy
        have hz2 : z ∈ es ∧ z.1 = mh P w k := by simpa using hz
        have hz3 : z ∈ es.toList := by simpa using hz2.1
        rw [T.rw] at hz3
        obtain ⟨p2, hp2, rfl⟩ := List.mem_map.mp hz3
        exact ⟨p2.2, p2.1, T.tu p2 hp2, rfl⟩
    · rw [probes e, prb_add, Nat.add_sub_cancel' hc]
      exact wpAny_pure q
/-! ### the table laid anew, larger -/
theorem range_get {α : Type} (l : List α) : (List.range l.length).filterMap (fun i => l[i]?) = l := by
  refine List.ext_getElem? fun n => ?_
  have key : ∀ m, m ≤ l.length → (List.range m).filterMap (fun i => l[i]?) = l.take m := fun m => by
    induction m with
    | zero => exact fun _ => rfl
    | succ m ih =>
      intro hm
      rw [List.range_succ, List.filterMap_append, ih (by omega), List.take_add_one]
      congr 1
  rw [key _ (Nat.le_refl _), List.take_length]
theorem picked {α β : Type} (f : α → β) (R : List α) (es : List β) (he : es = R.map f) (o : List Nat) (ho : o.Perm (List.range R.length)) :
    o.filterMap (fun i => es[i]?) = (o.filterMap fun i => R[i]?).map f ∧ (o.filterMap fun i => R[i]?).Perm R := by
  constructor
  · rw [List.map_filterMap]
    congr 1
    funext i
    rw [he, List.getElem?_map]
  · have q := ho.filterMap fun i => R[i]?
    rw [range_get] at q
    exact q
theorem hashes {α : Type} (g : α → Int) (R : List α) (hs : Array Int) (he : hs.toList = R.map g) (o : List Nat) (ho : ∀ i ∈ o, i < R.length) : (o.filterMap fun i => R[i]?).map g = o.map fun i => hs.getD i 0 := by
  induction o with
  | nil => rfl
  | cons i o ih =>
    have hi := ho i List.mem_cons_self
    have e : hs.getD i 0 = g R[i] := by
      have z : hs[i]? = some (g R[i]) := by
        rw [← Array.getElem?_toList, he, List.getElem?_map, List.getElem?_eq_getElem hi]
        rfl
      rw [Array.getD_eq_getD_getElem?, z]
      rfl
    rw [List.filterMap_cons, List.getElem?_eq_getElem hi]
    show g R[i] :: (o.filterMap fun i => R[i]?).map g = hs.getD i 0 :: _
    rw [e, ih fun j hj => ho j (List.mem_cons_of_mem _ hj)]
theorem unmoved {h h' : Heap} {k : List Key} {b : Addr} {o : Obj} (hb : IsM P w h k b) (ho : h.get? a = some o) (hd : o.data = .set es ep t) (same : Heap.SameBut a h h') : IsM P w h' k b := by
  obtain ⟨z, its, n, hz, hc, hzd, hi⟩ := hb
  refine ⟨z, its, n, (same.2 b ?_).trans hz, hc, hzd, hi⟩
  rintro rfl
  cases hz.symm.trans ho
  cases hzd.symm.trans hd
theorem relay {o : Obj} (ho : s.heap.get? a = some o) (hex : o.ExactSet) (hd : o.data = .set es ep t) (rw_ : es.toList = R.map (rowM P w)) (tb : TabOk t (R.map fun p => mh P w p.1)) (tu : ∀ p ∈ R, IsM P w s.heap p.1 p.2) (le : R.length ≤ t.mask) (fw : R.length ≤ 60) {n M : Nat}
    (hw : SetTable.sizeAbove n - 1 = M) (hM : MaskOk M) (h128 : SetTable.sizeAbove n ≤ 128) (rm : 5 * R.length < 3 * M) {Q : Unit → Shared → Prop}
    (q : ∀ h' R' es' ep' t', Heap.SameBut a s.heap h' → TS P w h' a R' es' ep' t' → R'.Perm R → Q () { s with heap := h' }) : wpAny (model P w) A (setRelay a n) Q E s := by
  have sz : es.size = R.length := by rw [← Array.length_toList, rw_, List.length_map]
  have pz : t.place.size = R.length := by rw [tb.sz, List.length_map]
  have ft : t.fits es.size = true := fits_of (pz.trans sz.symm) tb.dm (by rw [sz]; exact le)
  obtain ⟨t', od, e, pm, tb', em, _, _, _⟩ := relaid_ok t (hs := es.map (·.1)) (wanted := n) hw hM (by rw [Array.size_map, sz]; omega)
  rw [Array.size_map, sz] at pm
  obtain ⟨p1, p2⟩ := picked (rowM P w) R es.toList rw_ od.toList pm
  have hsh := hashes (fun p : Kt => mh P w p.1) R (es.map (·.1)) (by rw [Array.toList_map, rw_, List.map_map]; rfl) od.toList fun i hi => List.mem_range.mp (pm.mem_iff.mp hi)
  rw [← hsh] at tb'
  have l1 : (od.filterMap (es[·]?)).toList = (od.toList.filterMap fun i => R[i]?).map (rowM P w) := by
    rw [← p1, Array.toList_filterMap]
    congr 1
    funext i
    exact Array.getElem?_toList.symm
  generalize od.toList.filterMap (fun i => R[i]?) = R' at p2 l1 tb'
  have z1 : (od.filterMap (es[·]?)).size = es.size := by rw [← Array.length_toList, l1, List.length_map, p2.length_eq, sz]
  rw [setRelay_eq]
  refine wpAny_bind (wpAny_setState_of ho hd ft ?_)
  dsimp only
  refine wp_if_neg (by rw [sizeLine_eq]; omega) ?_
  first | rw [e] | (refine wpAny_bind (wpAny_pure ?_); rw [e])
  dsimp only
  refine wpAny_bind (wp_if_neg (by rw [z1]; simp) ?_)
  try refine wpAny_bind (wpAny_pure ?_)
  refine wpAny_pure ?_
  dsimp only
  refine wpAny_storeSet_of ho hd ?_ (by rw [z1, sz, sizeLine_eq]; omega)
  have sb : Heap.SameBut a s.heap (s.heap.update a (Obj.putSet (od.filterMap (es[·]?)) t')) := Heap.SameBut.update ..
  exact q _ R' _ (ep + 1) t' sb ⟨⟨_, store_at ho hd, ⟨hex.1, hex.2.1, hex.2.2⟩, rfl⟩, l1, tb', fun p hp => unmoved (tu p (p2.mem_iff.mp hp)) ho hd sb, by rw [p2.length_eq, em]; exact rm, by rw [p2.length_eq]; exact fw⟩ p2
/-! ### a new tuple added -/
theorem add_new {k : List Key} {x : Addr} (T : TS P w s.heap a R es ep t) (hx : IsM P w s.heap k x) (hu : A.units < cLine) (new : ∀ p ∈ R, p.1 ≠ k) (few : R.length + 1 ≤ 60) {Q : Bool → Shared → Prop}
    (q : ∀ b h' R' es' ep' t', Heap.SameBut a s.heap h' → TS P w h' a R' es' ep' t' → R'.Perm ((k, x) :: R) → Q b { s with heap := h' }) : wpAny (model P w) A (setAddHashed a (.ref x) (mh P w k)) Q E s := by
  obtain ⟨o, ho, hex, hd⟩ := T.ob
  have sz := T.sz
  have rm := T.rm
  obtain ⟨K, hK, free, full⟩ := T.tb.first (by rw [List.length_map]; omega) (mh P w k)
  have turns : 10 * SetTable.turns t.mask ≤ 1420 := by
    unfold SetTable.turns
    rcases T.tb.mok with e | e | e <;> omega
  unfold setAddHashed
  refine wpAny_holding ?_
  rw [show (100000 : Nat) = 99999 + 1 from rfl, setAddHashedIn_succ]
  refine wpAny_bind (wpAny_setState_of ho hd T.ft ?_)
  dsimp only
  refine wp_if_neg (by simp [byScan, Value.scannable]) ?_
  try refine wpAny_bind (wpAny_pure ?_)
  unfold setSearch
  refine wpAny_bind (search T hx hu new hK free full ?_ 100000 0 none rfl (Nat.zero_le _) (by omega))
  dsimp only
  refine wpAny_bind (wpAny_setState_of ho hd T.ft ?_)
  dsimp only
  obtain ⟨e1, le1, tb1, em, _, _, _, _, fl⟩ := T.tb.put free full
  generalize t.put (way t.mask (mh P w k) K) = pt at e1 tb1 em fl ⊢
  obtain ⟨t1, at1⟩ := pt
  dsimp only at e1 tb1 em fl ⊢
  subst e1
  generalize SetTable.below t.place (way t.mask (mh P w k) K) = j at le1 tb1 ⊢
  -- the rows with the new one
  have rw1 : (SetTable.insertAt es j (mh P w k, Value.ref x)).toList = (R.take j ++ (k, x) :: R.drop j).map (rowM P w) := by
    rw [SetTable.toList_insertAt, T.rw, List.map_append, List.map_cons, List.map_take, List.map_drop]
    rfl
  have tb2 : TabOk t1 ((R.take j ++ (k, x) :: R.drop j).map fun p => mh P w p.1) := by
    rw [List.map_append, List.map_cons, List.map_take, List.map_drop]
    exact tb1
  have pm := put_perm R j (k, x)
  generalize SetTable.insertAt es j (mh P w k, Value.ref x) = es1 at rw1 ⊢
  generalize R.take j ++ (k, x) :: R.drop j = R1 at rw1 tb2 pm
  have ln : R1.length = R.length + 1 := pm.length_eq
  have sz1 : es1.size = R.length + 1 := by rw [← Array.length_toList, rw1, List.length_map, ln]
  -- behind the store, whether or not the table stays plain
  have after : ∀ t2 : SetTable, TabOk t2 (R1.map fun p => mh P w p.1) → t2.mask = t.mask → t2.fill = R.length + 1 →
      wpAny (model P w) A (do
        storeSet a es1 t2
        if !false && t2.tooFull then setRelay a (SetTable.grown (es.size + 1))
        return true) Q E s := by
    intro t2 tb3 em2 fl2
    refine wpAny_bind (wpAny_storeSet_of ho hd ?_ (by rw [sz1, sizeLine_eq]; omega))
    have sb : Heap.SameBut a s.heap (s.heap.update a (Obj.putSet es1 t2)) := Heap.SameBut.update ..
    have ho1 := store_at (es' := es1) (t' := t2) ho hd
    generalize s.heap.update a (Obj.putSet es1 t2) = h1 at sb ho1 ⊢
    have tu1 : ∀ p ∈ R1, IsM P w h1 p.1 p.2 := fun p hp => (List.mem_cons.mp (pm.mem_iff.mp hp)).elim (fun e => by rw [e]; exact unmoved hx ho hd sb) fun hp => unmoved (T.tu p hp) ho hd sb
    by_cases hf : t2.tooFull = true
    · have ge : (R.length + 1) * 5 ≥ t2.mask * 3 := by
        have z := hf
        unfold SetTable.tooFull at z
        rw [decide_eq_true_eq, fl2] at z
        exact z
      rw [em2] at ge
      have two : (t.mask = 7 ∧ R.length = 4) ∨ (t.mask = 31 ∧ R.length = 18) := by
        rcases T.tb.mok with e | e | e
        · exact .inl (by omega)
        · exact .inr (by omega)
        · omega
      have rel : ∀ M, SetTable.sizeAbove (SetTable.grown (R.length + 1)) - 1 = M → MaskOk M → SetTable.sizeAbove (SetTable.grown (R.length + 1)) ≤ 128 → 5 * (R.length + 1) < 3 * M →
          wpAny (model P w) A (setRelay a (SetTable.grown (R.length + 1))) (fun _ s' => wpAny (model P w) A (pure true) Q E s') E { s with heap := h1 } := fun M m1 m2 m3 m4 =>
        relay (s := { s with heap := h1 }) ho1 ⟨hex.1, hex.2.1, hex.2.2⟩ rfl rw1 tb3 tu1 (by rw [ln, em2]; rcases two with z | z <;> omega) (by omega) m1 m2 m3 (by rw [ln]; exact m4) fun h2 R2 es2 ep2 t3 sb2 T2 pm2 =>
          wpAny_pure (q true h2 R2 es2 ep2 t3 (sb.trans sb2) T2 (pm2.trans pm))
      first
        | (refine wpAny_bind ?_; refine wp_if_pos (by simp [hf]) ?_)
        | (refine wp_if_pos (by simp [hf]) ?_; refine wpAny_bind ?_)
      rw [sz]
      rcases two with ⟨_, e⟩ | ⟨_, e⟩
      · exact rel 31 (by rw [e, size_20]) (.inr (.inl rfl)) (by rw [e, size_20]; decide) (by omega)
      · exact rel 127 (by rw [e, size_76]) (.inr (.inr rfl)) (by rw [e, size_76]; decide) (by omega)
    · have lt : 5 * R1.length < 3 * t2.mask := by
        have z := hf
        unfold SetTable.tooFull at z
        rw [decide_eq_true_eq, fl2] at z
        omega
      first
        | refine wp_if_neg (by simp [hf]) ?_
        | (refine wpAny_bind ?_; refine wp_if_neg (by simp [hf]) ?_; refine wpAny_pure ?_)
      try refine wpAny_bind (wpAny_pure ?_)
      exact wpAny_pure (q true h1 R1 es1 (ep + 1) t2 sb ⟨⟨_, ho1, ⟨hex.1, hex.2.1, hex.2.2⟩, rfl⟩, rw1, tb3, tu1, lt, by omega⟩ pm)
  have cut : ∀ b : Bool, TabOk (if b = true then t1 else { t1 with plain := false }) (R1.map fun p => mh P w p.1) ∧ (if b = true then t1 else { t1 with plain := false }).mask = t.mask ∧ (if b = true then t1 else { t1 with plain := false }).fill = R.length + 1 := by
    rw [List.length_map] at fl
    intro b
    cases b with
    | true => exact ⟨tb2, em, fl⟩
    | false => exact ⟨⟨tb2.ris, tb2.dm, tb2.sz, tb2.mok, tb2.bd, tb2.reach⟩, em, fl⟩
  by_cases hp : t1.plain = true
  · first
      | (refine wpAny_bind ?_; refine wp_if_pos hp ?_; refine by_value hx fun b => ?_)
      | refine wp_if_pos hp (wpAny_bind (by_value hx fun b => ?_))
    exact after _ (cut b).1 (cut b).2.1 (cut b).2.2
  · first
      | (refine wpAny_bind ?_; refine wp_if_neg hp ?_; refine wpAny_pure ?_)
      | refine wp_if_neg hp (wpAny_bind (wpAny_pure ?_))
    exact after _ (cut true).1 (cut true).2.1 (cut true).2.2
/-! ### set(xs), xs a list of such tuples, no two alike -/
theorem moved {h h' : Heap} {k : List Key} {b : Addr} (x : IsM P w h k b) (hk : ∀ c o, h.get? c = some o → h'.get? c = some o) : IsM P w h' k b := by
  obtain ⟨o, its, n, ho, r⟩ := x
  exact ⟨o, its, n, hk b o ho, r⟩
theorem TS.keep {h h' : Heap} (T : TS P w h a R es ep t) (ha : ∀ o, h.get? a = some o → h'.get? a = some o) (ht : ∀ p ∈ R, IsM P w h' p.1 p.2) : TS P w h' a R es ep t := by
  obtain ⟨o, ho, r⟩ := T.ob
  exact ⟨⟨o, ha o ho, r⟩, T.rw, T.tb, ht, T.rm, T.fw⟩
def led0 (w : World) : SetTable := .fresh 0 0 (!w.params.followText "set-order")
def set0 (w : World) : Obj := { cls := .type "set", dict := none, data := .set #[] 0 (led0 w) }
theorem TS.none {h : Heap} (ho : h.get? a = some (set0 w)) : TS P w h a [] #[] 0 (led0 w) :=
  ⟨⟨_, ho, ⟨rfl, rfl, rfl⟩, rfl⟩, rfl, ⟨List.Pairwise.nil, rfl, rfl, .inl rfl, fun x hx => (by cases hx), fun i h j hi => (by cases hi)⟩, fun p hp => (by cases hp), by show 5 * 0 < 3 * 7; decide, by decide⟩
theorem update_loop {I S : Addr} {fp wr : List Addr} {G : Array GenState → Array GenState → Prop} {n : Nat} {Pv : Nat → Value → Prop} {St : Nat → Shared → Prop} {Rr : Result → Shared → Prop} (W : WalksS P w A.in1 I fp wr G n Pv St) (hSf : S ∉ fp) (ks : List Kt) (hn : n = ks.length)
    (few : ks.length ≤ 60) (nd : (ks.map (·.1)).Nodup) (hval : ∀ i v, Pv i v → ∃ p, ks[i]? = some p ∧ v = .ref p.2) (h0 : Heap) (hk : ∀ p ∈ ks, IsM P w h0 p.1 p.2) (hS0 : h0.get? S = none) (hw0 : ∀ b ∈ wr, h0.get? b = none) (hu : A.in1.units < cLine) :
    ∀ (d i : Nat) (z : Shared), n = i + d → St i z → (∀ b o, h0.get? b = some o → z.heap.get? b = some o) → (∃ R es ep t, TS P w z.heap S R es ep t ∧ R.Perm (ks.take i)) →
      (∀ z' R es ep t, Moved (S :: wr) G z z' → TS P w z'.heap S R es ep t → R.Perm ks → (∀ b o, h0.get? b = some o → z'.heap.get? b = some o) → Rr (.ok (.ret .none)) z') → codeAny (model P w) A (.builtin "set.update.loop" ⟨[.ref S, .ref I], []⟩) Rr z := by
  have hSw : S ∉ wr := fun q => hSf (W.sub _ q)
  have sub : ∀ b ∈ wr, b ∈ S :: wr := fun b => List.mem_cons_of_mem S
  have on : ∀ {z z' : Shared}, Moved wr G z z' → (∀ b o, h0.get? b = some o → z.heap.get? b = some o) → ∀ b o, h0.get? b = some o → z'.heap.get? b = some o := fun mv kp b o e =>
    mv.heap b o (fun q => nomatch (hw0 b q).symm.trans e) (kp b o e)
  intro d
  induction d with
  | zero =>
    intro i z hi st kp ⟨R, es, ep, t, T, pm⟩ end_
    cases (show n = i from hi)
    refine codeAny_builtin F.entry_set_update_loop ?_
    rw [Around.under_plainId F.plain_set_update_loop _]
    refine wpAny_bind (W.done z _ _ st fun z' mv => ?_)
    have kp' := on mv kp
    rw [hn, List.take_length] at pm
    exact wpAny_pure (end_ z' R es ep t (mv.mono sub) (T.keep (fun o => mv.heap S o hSw) fun p hp => moved (hk p (pm.mem_iff.mp hp)) kp') pm kp')
  | succ d ih =>
    intro i z hi st kp ⟨R, es, ep, t, T, pm⟩ end_
    refine codeAny_builtin F.entry_set_update_loop ?_
    rw [Around.under_plainId F.plain_set_update_loop _]
    refine wpAny_bind (W.item i z _ _ (by omega) st fun v z' hv st' mv => ?_)
    obtain ⟨p, hp, rfl⟩ := hval i v hv
    have kp' := on mv kp
    have T' : TS P w z'.heap S R es ep t := T.keep (fun o => mv.heap S o hSw) fun u hu => moved (hk u (List.mem_of_mem_take (pm.mem_iff.mp hu))) kp'
    have hx : IsM P w z'.heap p.1 p.2 := moved (hk p (List.mem_of_getElem? hp)) kp'
    have il : i < ks.length := by omega
    have tk : ks.take (i + 1) = ks.take i ++ [p] := by
      rw [List.take_add_one, hp]
      rfl
    have new : ∀ u ∈ R, u.1 ≠ p.1 := fun u hu e => by
      have m := pm.mem_iff.mp hu
      have q := List.Nodup.sublist ((List.take_sublist (i + 1) ks).map (·.1)) nd
      rw [tk, List.map_append, List.nodup_append] at q
      exact q.2.2 _ (List.mem_map_of_mem m) _ (List.mem_singleton.mpr rfl) e
    have ln : R.length = i := by
      rw [pm.length_eq, List.length_take]
      omega
    show wpAny _ A.in1 (holding [Value.ref p.2] (setAdd S (.ref p.2)) >>= _) _ _ z'
    refine wpAny_bind (wpAny_holding ?_)
    unfold setAdd
    refine wpAny_holding (wpAny_bind (wpAny_pyHash_tuple hu hx ?_))
    refine add_new (s := { z' with toks := z'.toks + (p.1.length + 1) }) T' hx hu new (by omega) fun b h' R' es' ep' t' sb T2 pm2 => ?_
    have kp2 : ∀ b o, h0.get? b = some o → h'.get? b = some o := fun b o e => (sb.2 b fun q => by rw [q, hS0] at e; cases e).trans (kp' b o e)
    refine wpAny_pure ⟨plainId_quiet F.plain_set_update_loop _, ih (i + 1) _ (by omega) (W.frame _ z' _ _ st' (Nat.le_add_right _ _) fun b hb o e => ?_) kp2 ⟨R', es', ep', t', T2, ?_⟩ fun z2 R2 es2 ep2 t2 mv2 T3 pm3 kp3 => ?_⟩
    · exact (sb.2 b fun q => hSf (q ▸ hb)).trans e
    · rw [tk]
      exact pm2.trans ((List.Perm.cons _ pm).trans (List.perm_append_comm (l₁ := [p])))
    · refine end_ z2 R2 es2 ep2 t2 (Moved.trans W.gtrans ((mv.mono sub).then_heap (Nat.le_add_right _ _) fun b o hb e => ?_) mv2) T3 pm3 kp3
      exact (sb.2 b fun q => hb (q ▸ List.mem_cons_self)).trans e
end
end Tt
end KS
set_option Elab.async false
set_option linter.all false
set_option maxRecDepth 100000
set_option maxHeartbeats 8000000
set_option pp.maxSteps 400
/-! set(xs) for tuples of whole numbers and texts: the call. -/
namespace KS
open PySem PySem.Spec PyProof.Rows L2
namespace Tt
section
variable {P : Program} {w : World} {A : Around} {E : Value → Shared → Prop} {s : Shared}
theorem call_set {l : Addr} {items : Array Value} (ks : List Kt) {Q : Value → Shared → Prop} (hh : A.handled = none) (hl : s.heap.IsList l items) (hit : items.toList = ks.map fun p => Value.ref p.2) (hk : ∀ p ∈ ks, IsM P w s.heap p.1 p.2) (few : ks.length ≤ 60)
    (nd : (ks.map (·.1)).Nodup) (hu : A.units + 3 < cLine) (q : ∀ (h' : Heap) (tk : Nat) R es ep t, TS P w h' s.heap.objs.size R es ep t → R.Perm ks → (∀ b o, s.heap.get? b = some o → h'.get? b = some o) → Q (.ref s.heap.objs.size) { s with heap := h', toks := tk }) :
    wpAny (model P w) A (call (.type "set") [.ref l]) Q E s := by
  have isz : items.size = ks.length := by rw [← Array.length_toList, hit, List.length_map]
  obtain ⟨c, tl, hmro⟩ := F.called_set.mro
  have hmade := F.called_set.made
  have hsub := F.called_set.sub
  refine wpAny_call (codeAny_of_tree ?_)
  refine wpAny_pure ⟨Code.quiet_builtin _ (by decide +kernel), codeAny_builtin F.entry_type_call ?_⟩
  rw [Around.under_plain (weight_type_call_type "set" [.ref l] []) rfl]
  have n1 := F.called_set.notType
  have n2 := F.called_set.canCreate
  have n3 := F.typeCall_set_1 (.ref l)
  repeat (any_goals (first | assumption | wp_step))
  refine codeAny_mono (code_set_led1 (.ref l) (E := E) (Q₁ := fun ob z => ob = .ref s.heap.objs.size ∧ z = { s with heap := s.heap.push (set0 w) }) ⟨rfl, rfl⟩) fun r z hr => ?_
  match r, hr with
  | .error e, hr => exact hr
  | .ok (.ret ob), hr =>
    obtain ⟨rfl, rfl⟩ := hr
    have at0 : (s.heap.push (set0 w)).get? s.heap.objs.size = some (set0 w) := Heap.get?_push_size _ rfl
    have ty0 : Shared.TypeIs { s with heap := s.heap.push (set0 w) } (.ref s.heap.objs.size) "set" := ⟨_, at0, rfl⟩
    have m1 := F.called_set.init.lookup
    have m2 := F.called_set.init.bind (.ref s.heap.objs.size)
    repeat (any_goals (first | assumption | wp_step))
    refine codeAny_mono (codeAny_call_builtin (R := wants (fun r z => r = .none ∧ ∃ h' tk R es ep t, z = { s with heap := h', toks := tk } ∧ TS P w h' s.heap.objs.size R es ep t ∧ R.Perm ks ∧ (∀ b o, s.heap.get? b = some o → h'.get? b = some o)) E)
      F.called_set.init.plain F.entry_set_init (check_set_init_1 ty0 ?_)) fun r₂ z₂ hr₂ => ?_
    · obtain ⟨⟨oc, od, odt, os⟩, hol, hcl, nl, hdl⟩ := hl
      simp only at hcl hdl
      subst hcl hdl
      have hol' := Heap.get?_push_of_some (set0 w) hol
      have u1 := F.sub_list_set
      have u2 := F.sub_list_frozenset
      have u3 : (Value.type "list" == Value.type "dict") = false := by decide
      have hl1 : (s.heap.push (set0 w)).IsList l items := ⟨_, hol', rfl, nl, rfl⟩
      have big : l < s.heap.objs.size := Heap.lt_size hol
      have pz : (s.heap.push (set0 w)).objs.size = s.heap.objs.size + 1 := Heap.size_push ..
      unfold Builtin.«set.__init__» noKeywords Builtin.Frozenset.updateFrom
      generalize hPI : pyIter = PI
      wp_walk
      subst hPI
      refine wpAny_pyIter_list hl1 (wpAny_bind (wpAny_runValue ?_))
      have h3 : A.in1.in1.in1.handled = none := by simp [hh]
      have ne : l ≠ (s.heap.push (set0 w)).objs.size := Nat.ne_of_lt (by rw [pz]; exact Nat.lt_succ_of_lt big)
      have fresh : ∀ b, s.heap.objs.size ≤ b → s.heap.get? b = none := fun b hb => by
        cases e : s.heap.get? b with
        | none => rfl
        | some o => exact absurd (Heap.lt_size e) (Nat.not_lt_of_le hb)
      have hSf : s.heap.objs.size ∉ [(s.heap.push (set0 w)).objs.size, l] := by
        intro m
        rcases List.mem_cons.mp m with e | e
        · rw [pz] at e
          exact absurd e (Nat.ne_of_lt (Nat.lt_succ_self _))
        · exact absurd (List.mem_singleton.mp e) (Nat.ne_of_gt big)
      have hval : ∀ (i : Nat) (v : Value), items[i]? = some v → ∃ p, ks[i]? = some p ∧ v = .ref p.2 := fun i v hv => by
        rw [← Array.getElem?_toList, hit, List.getElem?_map] at hv
        obtain ⟨p, e1, e2⟩ := Option.map_eq_some_iff.mp hv
        exact ⟨p, e1, e2.symm⟩
      refine update_loop ((Walks.list h3 _ l ne items).toS) hSf ks isz few nd hval s.heap hk (fresh _ (Nat.le_refl _)) (fun b hb => fresh b (by rw [List.mem_singleton.mp hb, pz]; omega)) hu items.size 0 _ (by omega)
        ⟨⟨_, Heap.get?_push_size _ rfl, rfl, rfl⟩, (hl1.push _)⟩ (fun b o e => Heap.get?_push_of_some _ (Heap.get?_push_of_some _ e)) ⟨[], #[], 0, _, TS.none (Heap.get?_push_of_some _ at0), List.Perm.refl _⟩ fun z' R es ep t mv T pm kp => ?_
      obtain ⟨h', g', d', tk', os'⟩ := z'
      cases (show g' = s.gens from mv.gens)
      cases (show d' = s.drawn from mv.drawn)
      cases (show os' = s.os from mv.os)
      show wpAny _ _ _ _ _ _
      refine wpAny_pure ?_
      show wpAny _ _ (ret Value.none) _ _ _
      exact wpAny_pure ⟨rfl, h', tk', R, es, ep, t, rfl, T, pm, kp⟩
    · match r₂, hr₂ with
      | .error e, hr₂ => exact hr₂
      | .ok (.ret r), hr₂ =>
        obtain ⟨rfl, h', tk, R, es, ep, t, rfl, T, pm, kp⟩ := hr₂
        repeat (any_goals (first | assumption | wp_step))
        exact q _ _ _ _ _ _ T pm kp
end
end Tt
end KS
set_option Elab.async false
set_option linter.all false
set_option maxRecDepth 100000
set_option maxHeartbeats 8000000
set_option pp.maxSteps 400
/-! len(set(xs)), the rule. -/
namespace KS
open PySem PySem.Spec PyProof.Rows L2
namespace Tt
theorem refs_are {ks : List Kt} : ∀ {us : List Value}, Vals (ks.map fun p => V.ref p.2) us → us = ks.map fun p => Value.ref p.2 := by
  induction ks with
  | nil => intro us h; cases h; rfl
  | cons p ks ih =>
    intro us h
    cases h with
    | cons r t =>
      cases r
      rw [ih t]
      rfl
theorem isM_of {X : Cx} {pins : List (Addr × Obj)} {σ : L2.St} {H : Hp} {s : Shared} {b : Addr} {k : List Key} (I : Inv X pins σ H s) (h : SqT X.K H b (k.map kV)) : IsM X.prog X.w s.heap k b := by
  obtain ⟨its, r, ⟨o, ho, hc, n, hd⟩, _⟩ := I.tuple h
  exact ⟨o, its.toArray, n, ho, hc, hd, by simpa using items_are r⟩
def tLenSetM (K : PySem.W.Frag) (ta : TE) : TE := fun σ H Q => ta σ H fun x H1 => ∃ (l : Addr) (ks : List Kt), x = .ref l ∧ SqL K H1 l (ks.map fun p => V.ref p.2) ∧ (∀ p ∈ ks, SqT K H1 p.2 (p.1.map kV)) ∧ (ks.map (·.1)).Nodup ∧ ks.length ≤ 60 ∧ Q (.int (ks.length : Nat)) H1
theorem pe_lenSetM {X : Cx} {a : Expr} {ta : TE} {p p2 q pos : Pos} (hu : X.A.units + 64 < cLine) (hg : Gl X "len") (hm : X.mg "len" = none) (hg2 : Gl X "set") (hm2 : X.mg "set" = none) (ha : PE X a ta) (hc : X.calm = true := by rfl)
    (na : starEach [a] X.env = (false, eval a X.env) :: starEach [] X.env := by rfl) : PE X (.Call (.Name "len" p) [.Call (.Name "set" p2) [a] [] q] [] pos) (tLenSetM X.K ta) := by
  refine ⟨fun pins s σ H Q I h => Call_ (ld_blt I hg hm boot_len (PyProof.Rows.callWith_builtin1 (PyProof.Rows.args_cons ?_ rfl) rfl rfl))⟩
  refine Call_ (ld_blt I hg2 hm2 boot_set (PyProof.Rows.callWith_type1 (PyProof.Rows.args_cons (thn (ha.run pins s σ H _ I h) fun v s1 ⟨x, H1, I1, r1, q1⟩ => PyProof.Rows.args_nil ?_) na) na rfl))
  obtain ⟨l, ks, rfl, hq, ht, nd, few, q1⟩ := q1
  cases r1
  obtain ⟨its, r, pl, _⟩ := I1.list hq
  refine call_set (P := X.prog) (w := X.w) ks (I1.ok.hd hc) pl.isList (by simpa using refs_are r) (fun p hp => isM_of I1 (ht p hp)) few nd (by omega) fun h' tk R es ep t T pm kp => PyProof.Rows.args_nil ?_
  obtain ⟨o, ho, hex, hd⟩ := T.ob
  have sz : es.size = ks.length := by rw [← Array.length_toList, T.rw, List.length_map, pm.length_eq]
  have ft : t.fits es.size = true := fits_of (by rw [T.tb.sz, List.length_map, sz, pm.length_eq]) T.tb.dm (by have := T.rm; rw [sz, ← pm.length_eq]; omega)
  have I2 : Inv X pins σ H1 { s1 with heap := h', toks := tk } := I1.kept fun b o e => kp b o e
  exact call_len_set ho hex hd ft (by rw [sz]; omega) ⟨.int ks.length, H1, I2.tok _, ⟨_, by rw [sz]⟩, q1⟩
end Tt
end KS
set_option Elab.async false
set_option linter.all false
set_option maxRecDepth 100000
set_option maxHeartbeats 8000000
set_option pp.maxSteps 400
/-! The law's plan. -/
namespace KS
open PySem PySem.Spec PyProof.Rows L2
/-- a list by its places, less what was taken -/
def lessV (n : Nat) (F T : Nat → Int) : List V := (List.range n).map fun s => V.int (F s - T s)
theorem lessV_get {n : Nat} {F T : Nat → Int} {s : Nat} (h : s < n) : (lessV n F T)[s]? = some (.int (F s - T s)) := by
  unfold lessV
  rw [List.getElem?_map, List.getElem?_range h]
  rfl
theorem lessV_len (n : Nat) (F T : Nat → Int) : (lessV n F T).length = n := by
  unfold lessV
  rw [List.length_map, List.length_range]
theorem lessV_set {n : Nat} {F T T' : Nat → Int} {j : Nat} {d : Int} (h : ∀ s, T' s = T s + if j = s then d else 0) : (lessV n F T).set j (.int (F j - T j - d)) = lessV n F T' := by
  refine List.ext_getElem? fun i => ?_
  rw [List.getElem?_set]
  by_cases hi : i < n
  · rw [lessV_get hi, lessV_get hi, lessV_len, h i]
    by_cases e : j = i
    · subst e
      rw [if_pos rfl, if_pos hi, if_pos rfl]
      congr 2
      omega
    · rw [if_neg e, if_neg e]
      congr 2
      omega
  · rw [List.getElem?_eq_none (by rw [lessV_len]; omega)]
    by_cases e : j = i
    · rw [if_pos e, if_neg (by rw [lessV_len]; omega), List.getElem?_eq_none (by rw [lessV_len]; omega)]
    · rw [if_neg e, List.getElem?_eq_none (by rw [lessV_len]; omega)]
theorem lessV_zero (l : List Int) : l.map V.int = lessV l.length (fun s => l.getD s 0) fun _ => 0 := by
  refine List.ext_getElem? fun i => ?_
  by_cases hi : i < l.length
  · rw [lessV_get hi, List.getElem?_map, List.getElem?_eq_getElem hi, List.getD_eq_getElem?_getD, List.getElem?_eq_getElem hi]
    simp
  · rw [List.getElem?_eq_none (l := l.map V.int) (by rw [List.length_map]; omega), List.getElem?_eq_none (by rw [lessV_len]; omega)]
def keyD (f : FW) : PyData := .tuple [.str f.n, .int (f.at_ : Nat)]
def key3D (x : Send) : PyData := .tuple [.str x.n, .int (x.at_ : Nat), .str x.s]
def key3 (x : Send) : List Key := [.inr x.n, .inl (x.at_ : Nat), .inr x.s]
theorem keyD_sm {f : FW} (h : nameOk f.n = true) : Sm (keyD f) 2 := Sm.tup (Sm.cons (Sm.name h) (Sm.cons (Sm.int _) Sm.nil))
theorem keyD_inj {f f2 : FW} (h : keyD f = keyD f2) : f.key = f2.key := by
  unfold keyD at h
  injection h with h
  injection h with h1 h2
  injection h2 with h2 _
  injection h1 with h1
  injection h2 with h2
  have h2 : f.at_ = f2.at_ := by omega
  show (f.n, f.at_) = (f2.n, f2.at_)
  rw [h1, h2]
theorem keys3_of {K : PySem.W.Frag} {H : Hp} : ∀ {acc : List V} {L : List Send}, DpAll K H acc (L.map key3D) → ∃ ks : List Tt.Kt, acc = ks.map (fun p => V.ref p.2) ∧ ks.map (·.1) = L.map key3 ∧ ∀ p ∈ ks, SqT K H p.2 (p.1.map kV)
  | [], [], _ => ⟨[], rfl, rfl, fun p h => by cases h⟩
  | [], _ :: _, h => by cases h
  | _ :: _, [], h => by cases h
  | v :: acc, x :: L, h => by
    cases h with
    | cons h1 h2 =>
      obtain ⟨ks, e1, e2, e3⟩ := keys3_of h2
      obtain ⟨a, xs, rfl, hS, hA⟩ := Dp.tup_inv h1
      obtain ⟨v1, v2, v3, rfl, q1, q2, q3⟩ := dp3 hA
      cases dp_str q1
      cases dp_int q2
      cases dp_str q3
      refine ⟨(key3 x, a) :: ks, by rw [e1]; rfl, by rw [List.map_cons, e2]; rfl, fun p hp => ?_⟩
      rcases List.mem_cons.mp hp with rfl | hp
      · exact hS
      · exact e3 p hp
theorem takeS_snoc {l : List ((Nat × Nat) × Send)} {i : Nat} {e : (Nat × Nat) × Send} (h : l[i]? = some e) (s : Nat) : takeS (l.take (i + 1)) s = takeS (l.take i) s + if e.1.2 = s then e.2.cnt else 0 := by
  unfold takeS
  rw [List.take_add_one, h, take_app]
  simp
theorem takeU_snoc {l : List ((Nat × Nat) × Send)} {i : Nat} {e : (Nat × Nat) × Send} (h : l[i]? = some e) (u : Nat) : takeU (l.take (i + 1)) u = takeU (l.take i) u + if e.1.1 = u then e.2.cnt else 0 := by
  unfold takeU
  rw [List.take_add_one, h, take_app]
  simp
/-- a place is found again by its like, no two being alike -/
theorem any_at {ds : List PyData} {d : PyData} {j : Nat} (hd : sm d = true) (hs : ∀ z ∈ ds, sm z = true) (h : ds[j]? = some d) : (ds.any fun z => PyData.eqv z d) = true :=
  List.any_eq_true.mpr ⟨d, List.mem_of_getElem? h, (eqv_iff hd hd).mpr rfl⟩
theorem no_before {ds : List PyData} {d : PyData} {j : Nat} (hd : sm d = true) (hs : ∀ z ∈ ds, sm z = true) (nd : ds.Nodup) (h : ds[j]? = some d) : ∀ (m : Nat) (z' : PyData), m < j → ds[m]? = some z' → PyData.eqv z' d = false := fun m z' hm hz => by
  refine eqv_ne (hs z' (List.mem_of_getElem? hz)) hd fun e => ?_
  rw [e] at hz
  have q := (List.getElem?_inj (List.getElem?_eq_some_iff.mp hz).1 nd).mp (hz.trans h.symm)
  omega
theorem send_at {K : PySem.W.Frag} {H : Hp} {v : V} {x : Send} (h : Dp K H v x.d) : ∃ a, v = .ref a ∧ SqT K H a [.str x.n, .int (x.at_ : Nat), .str x.s, .int x.cnt] := by
  obtain ⟨a, xs, rfl, hS, hA⟩ := Dp.tup_inv h
  obtain ⟨v1, v2, v3, v4, rfl, h1, h2, h3, h4⟩ := dp4 hA
  cases dp_str h1
  cases dp_int h2
  cases dp_str h3
  cases dp_int h4
  exact ⟨a, rfl, hS⟩
theorem nw3 : ¬ (HT.sIx 4 0 none = 0 ∧ HT.sIx 4 4 (some 3) = 4) := fun h => by
  have q := h.2
  rw [show (some (3 : Int)) = some ((3 : Nat) : Int) from rfl, HT.sIx_nat] at q
  exact absurd q (by decide)
theorem nodup_key {α β : Type} (f : α → β) : ∀ {l : List α}, (l.map f).Nodup → ∀ {i j : Nat} {x y : α}, l[i]? = some x → l[j]? = some y → f x = f y → i = j := fun {l} h {i j x y} hi hj e => by
  have q1 : (l.map f)[i]? = some (f x) := by rw [List.getElem?_map, hi]; rfl
  have q2 : (l.map f)[j]? = some (f y) := by rw [List.getElem?_map, hj]; rfl
  exact (List.getElem?_inj (List.getElem?_eq_some_iff.mp q1).1 h).mp (by rw [q1, q2, e])
theorem map_nodup {α β γ : Type} (f : α → β) (k : α → γ) : ∀ {l : List α}, (l.map k).Nodup → (∀ x ∈ l, ∀ y ∈ l, f x = f y → k x = k y) → (l.map f).Nodup
  | [], _, _ => List.nodup_nil
  | a :: l, h, q => by
    rw [List.map_cons, List.nodup_cons] at h ⊢
    refine ⟨fun m => ?_, map_nodup f k h.2 fun x hx y hy => q x (List.mem_cons_of_mem _ hx) y (List.mem_cons_of_mem _ hy)⟩
    obtain ⟨b, hb, e⟩ := List.mem_map.mp m
    exact h.1 (by rw [q a List.mem_cons_self b (List.mem_cons_of_mem _ hb) e.symm]; exact List.mem_map_of_mem hb)
theorem sends_nd {c : Cat} {ws : List FW} {g : Nat → Nat → Int} (ok : c.Ok) (h : (ws.map FW.key).Nodup) : ((sendsOf c ws g).map key3).Nodup := by
  rw [← PL_map, List.map_map]
  refine map_nodup _ (fun e : (Nat × Nat) × Send => e.1) (PLm_nd c ws g ws.length) fun e1 h1 e2 h2 e => ?_
  obtain ⟨f1, y1, a1, b1, _, z1⟩ := sendsAt_some c ws g (PL_mem c ws g h1)
  obtain ⟨f2, y2, a2, b2, _, z2⟩ := sendsAt_some c ws g (PL_mem c ws g h2)
  have e : key3 e1.2 = key3 e2.2 := e
  rw [z1, z2] at e
  unfold key3 at e
  injection e with q1 e
  injection e with q2 e
  injection e with q3 _
  injection q1 with q1
  injection q2 with q2
  injection q3 with q3
  have q2 : f1.at_ = f2.at_ := by
    have q2 : ((f1.at_ : Nat) : Int) = ((f2.at_ : Nat) : Int) := q2
    omega
  have q1 : f1.n = f2.n := q1
  have q3 : y1.n = y2.n := q3
  have u : e1.1.1 = e2.1.1 := nodup_key FW.key h a1 a2 (by show (f1.n, f1.at_) = (f2.n, f2.at_); rw [q1, q2])
  have s : e1.1.2 = e2.1.2 := nodup_key Sup.n ok.snd b1 b2 q3
  exact Prod.ext u s
section
variable {P : Program} {w : World} {K : PySem.W.Frag} {mg : Str → Option Value} {base : Heap}
def spPlan (K : PySem.W.Frag) : Sp := fun vs H Q _ => ∃ (vc : V) (a as : Addr) (xs sv : List V) (c : Cat) (os : List Order) (rest : List Int) (g : Nat → Nat → Int), vs = [vc, .ref a, .ref as] ∧ Dp K H vc c.d ∧ c.Ok ∧ SqL K H a xs ∧ DpAll K H xs (os.map Order.d) ∧ os.length ≤ 13 ∧ (∀ o ∈ os, o.Ok c) ∧ (os.map Order.n).Nodup ∧
  (wishesOf os).length * c.sups.length ≤ 60 ∧ KF.Giv (roomsOf c) (ablesOf c (wishesOf os)) rest (needsOf (wishesOf os)) g ∧ SqT K H as sv ∧ DpAll K H sv ((sendsOf c (wishesOf os) g).map Send.d) ∧ ∀ H', Same H H' → Q (.bl true) H'
/-- what stands while the sends are walked -/
structure PW (K : PySem.W.Frag) (H H1 : Hp) (pr pn pw pk pd : Addr) (c : Cat) (ws : List FW) (yw kw : List V) (T U : Nat → Int) : Prop where
  s : Same H H1
  r0 : H pr = none
  d0 : H pd = none
  r : H1 pr = some (.lst (lessV c.sups.length (fun s => (roomsOf c).getD s 0) T))
  n : H1 pn = some (.lst ((c.sups.map Sup.n).map V.str))
  w : H1 pw = some (.lst yw)
  wd : DpAll K H1 yw (ws.map FW.d)
  k : H1 pk = some (.lst kw)
  kd : DpAll K H1 kw (ws.map keyD)
  d : H1 pd = some (.lst (lessV ws.length (fun u => (needsOf ws).getD u 0) U))
  ne : pr ≠ pn ∧ pr ≠ pw ∧ pr ≠ pk ∧ pr ≠ pd ∧ pd ≠ pn ∧ pd ≠ pw ∧ pd ≠ pk
section
variable {H H1 H2 : Hp} {pr pn pw pk pd : Addr} {c : Cat} {ws : List FW} {yw kw : List V} {T U T' U' : Nat → Int}
theorem PW.more (h : PW K H H1 pr pn pw pk pd c ws yw kw T U) (e : Same H1 H2) : PW K H H2 pr pn pw pk pd c ws yw kw T U :=
  ⟨h.s.trans e, h.r0, h.d0, e _ _ h.r, e _ _ h.n, e _ _ h.w, h.wd.same e, e _ _ h.k, h.kd.same e, e _ _ h.d, h.ne⟩
theorem keys_nl (ws : List FW) : nlAll (ws.map keyD) = true := nlAll_map _ _ fun _ _ => rfl
theorem fws_nl (ws : List FW) : nlAll (ws.map FW.d) = true := nlAll_map _ _ fun _ _ => FW.nl _
theorem PW.putR (h : PW K H H1 pr pn pw pk pd c ws yw kw T U) : PW K H (upd H1 pr (.lst (lessV c.sups.length (fun s => (roomsOf c).getD s 0) T'))) pr pn pw pk pd c ws yw kw T' U := by
  obtain ⟨n1, n2, n3, n4, _⟩ := h.ne
  have ht : ∀ b zs, SqT K H1 b zs → SqT K (upd H1 pr (.lst (lessV c.sups.length (fun s => (roomsOf c).getD s 0) T'))) b zs := fun b zs hz => t_updL h.r hz
  exact ⟨same_mut h.s h.r0, h.r0, h.d0, upd_same, by rw [upd_ne n1.symm]; exact h.n, by rw [upd_ne n2.symm]; exact h.w, dpAll_keep ht (fws_nl _) h.wd, by rw [upd_ne n3.symm]; exact h.k, dpAll_keep ht (keys_nl _) h.kd, by rw [upd_ne n4.symm]; exact h.d, h.ne⟩
theorem PW.putD (h : PW K H H1 pr pn pw pk pd c ws yw kw T U) : PW K H (upd H1 pd (.lst (lessV ws.length (fun u => (needsOf ws).getD u 0) U'))) pr pn pw pk pd c ws yw kw T U' := by
  obtain ⟨_, _, _, n4, n5, n6, n7⟩ := h.ne
  have ht : ∀ b zs, SqT K H1 b zs → SqT K (upd H1 pd (.lst (lessV ws.length (fun u => (needsOf ws).getD u 0) U'))) b zs := fun b zs hz => t_updL h.d hz
  exact ⟨same_mut h.s h.d0, h.r0, h.d0, by rw [upd_ne n4]; exact h.r, by rw [upd_ne n5.symm]; exact h.n, by rw [upd_ne n6.symm]; exact h.w, dpAll_keep ht (fws_nl _) h.wd, by rw [upd_ne n7.symm]; exact h.k, dpAll_keep ht (keys_nl _) h.kd, upd_same, h.ne⟩
end
theorem sc_plan : FnScope ["_law_catalog_here", "_law_orders", "_law_sends", "_law_supply", "_law_rooms", "_law_names", "_law_wishes_here", "_law_needs", "_law_keys", "_law_name", "_law_place", "_law_count", "_law_at", "_law_spot", "_law_wish", "_law_room", "_law_need", "_law_send"] ["_law_catalog_here", "_law_orders", "_law_sends"] (defScope (tp 62)) := ⟨rfl, rfl, rfl, by decide +kernel, rfl, by decide +kernel, by decide +kernel⟩
theorem ok_plan (T : Tx K mg) (d_law_wishes : Ok P w K mg base CX0 1 "_law_wishes" ["_law_orders"] (spWishesOf K)) (d_law_fits : Ok P w K mg base CX0 1 "_law_fits" ["_law_catalog_here", "_law_supply", "_law_items", "_law_region", "_law_by"] (spServes K)) : Ok P w K mg base CX0 2 "_law_plan" ["_law_catalog_here", "_law_orders", "_law_sends"] (spPlan K) := by
  have sc := sc_plan
  refine Ok.mk_ (i := 62) T (by decide +kernel) sc (fun _ _ _ _ _ _ us hl => match us, hl with | [_, _, _], _ => rfl) (fun vs H Q E h => ?_) (fun f cdv A outer s H vs Q E hr h => ?_)
  · obtain ⟨vc, a, as, xs, sv, c, os, rest, g, rfl, _⟩ := h
    rfl
  · obtain ⟨vc, a, as, xs, sv, c, os, rest, g, rfl, hc, ok, hS, hA, hlen, hos, hnd, h60, G, hSS, hSA, k⟩ := h
    obtain ⟨ac, vh, vr, vit, vl, vs, rfl, C⟩ := cat_at hc
    obtain ⟨au, xu, rfl, hSu, hAS⟩ := Dp.tup_inv C.s
    have ls := hAS.length
    rw [List.length_map] at ls
    have lsn := ok.sn
    have wok := wishes_ok hos
    have wl := wishesOf_len os fun o ho => (hos o ho).wn.2
    have wnd := wishes_nd hnd
    generalize hw : wishesOf os = ws at *
    refine ⟨_, pss_cons (ps_par (i := 4) (j := 5) (by rfl) sc.nd rfl rfl (by decide) rfl rfl (pa_cons (pe_lc (own := [("_law_supply", 3)]) rfl sc.nd (pi_tup (pe_ix (k_ix_tup (K := K) rfl) (pv 0) (pe_int) (fun _ _ => rfl))) (blkOk_by (own := [("_law_supply", 3)]) (N := ["_law_catalog_here", "_law_orders", "_law_sends", "_law_supply", "_law_rooms", "_law_names", "_law_wishes_here", "_law_needs", "_law_keys", "_law_name", "_law_place", "_law_count", "_law_at", "_law_spot", "_law_wish", "_law_room", "_law_need", "_law_send"]) (sc := defScope (tp 62)) (by decide +kernel)) (fun _ _ _ _ _ => pg_name (i := 3) sc.nd rfl (Or.inl rfl)) (fun _ _ _ _ _ => pts_nil) (fun _ _ _ _ _ => pe_ix (k_ix_tup (K := K) rfl) (pv 3) (pe_int) (fun _ _ => rfl))) (pa_cons (pe_lc (own := [("_law_supply", 3)]) rfl sc.nd (pi_tup (pe_ix (k_ix_tup (K := K) rfl) (pv 0) (pe_int) (fun _ _ => rfl))) (blkOk_by (own := [("_law_supply", 3)]) (N := ["_law_catalog_here", "_law_orders", "_law_sends", "_law_supply", "_law_rooms", "_law_names", "_law_wishes_here", "_law_needs", "_law_keys", "_law_name", "_law_place", "_law_count", "_law_at", "_law_spot", "_law_wish", "_law_room", "_law_need", "_law_send"]) (sc := defScope (tp 62)) (by decide +kernel)) (fun _ _ _ _ _ => pg_name (i := 3) sc.nd rfl (Or.inl rfl)) (fun _ _ _ _ _ => pts_nil) (fun _ _ _ _ _ => pe_ix (k_ix_tup (K := K) rfl) (pv 3) (pe_int) (fun _ _ => rfl))) pa_nil)) (by rfl))
      (pss_cons (ps_set (i := 6) sc.nd rfl (Or.inl rfl) (pe_fn d_law_wishes (hr.mono (by decide)) pass0 (pa_cons (pv 1) pa_nil)))
      (pss_cons (ps_par (i := 7) (j := 8) (by rfl) sc.nd rfl rfl (by decide) rfl rfl (pa_cons (pe_lc (own := [("_law_wish", 14)]) rfl sc.nd (pi_list (pv 6)) (blkOk_by (own := [("_law_wish", 14)]) (N := ["_law_catalog_here", "_law_orders", "_law_sends", "_law_supply", "_law_rooms", "_law_names", "_law_wishes_here", "_law_needs", "_law_keys", "_law_name", "_law_place", "_law_count", "_law_at", "_law_spot", "_law_wish", "_law_room", "_law_need", "_law_send"]) (sc := defScope (tp 62)) (by decide +kernel)) (fun _ _ _ _ _ => pg_name (i := 14) sc.nd rfl (Or.inl rfl)) (fun _ _ _ _ _ => pts_nil) (fun _ _ _ _ _ => pe_ix (k_ix_tup (K := K) rfl) (pv 14) (pe_int) (fun _ _ => rfl))) (pa_cons (pe_lc (own := [("_law_wish", 14)]) rfl sc.nd (pi_list (pv 6)) (blkOk_by (own := [("_law_wish", 14)]) (N := ["_law_catalog_here", "_law_orders", "_law_sends", "_law_supply", "_law_rooms", "_law_names", "_law_wishes_here", "_law_needs", "_law_keys", "_law_name", "_law_place", "_law_count", "_law_at", "_law_spot", "_law_wish", "_law_room", "_law_need", "_law_send"]) (sc := defScope (tp 62)) (by decide +kernel)) (fun _ _ _ _ _ => pg_name (i := 14) sc.nd rfl (Or.inl rfl)) (fun _ _ _ _ _ => pts_nil) (fun _ _ _ _ _ => pe_slice (k_sl_tup (K := K) rfl) (pv 14) po_none (po_some (pe_int)))) pa_nil)) (by rfl))
      (pss_cons (ps_if (pt_cmpR op_ne (Tt.pe_lenSetM hr.units rfl (T.free _ (by decide +kernel)) rfl (T.free _ (by decide +kernel)) (pe_lc (own := [("_law_send", 17)]) rfl sc.nd (pi_tup (pv 2)) (blkOk_by (own := [("_law_send", 17)]) (N := ["_law_catalog_here", "_law_orders", "_law_sends", "_law_supply", "_law_rooms", "_law_names", "_law_wishes_here", "_law_needs", "_law_keys", "_law_name", "_law_place", "_law_count", "_law_at", "_law_spot", "_law_wish", "_law_room", "_law_need", "_law_send"]) (sc := defScope (tp 62)) (by decide +kernel)) (fun _ _ _ _ _ => pg_name (i := 17) sc.nd rfl (Or.inl rfl)) (fun _ _ _ _ _ => pts_nil) (fun _ _ _ _ _ => pe_slice (k_sl_tup (K := K) rfl) (pv 17) po_none (po_some (pe_int))))) (pe_callB (k_len (K := K) rfl) (by rfl) (T.free _ (by decide +kernel)) (by decide +kernel) (pa_cons (pv 2) pa_nil)) (nomark _))
        (pss_one (ps_ret (pe_bl)))
        (pss_nil))
      (pss_cons (ps_for PassesOwn.never rfl (pi_tup (pv 2)) (k_pg_tup (K := K) (n := 4) rfl rfl (pgs_cons (pg_name (i := 9) sc.nd rfl (Or.inl rfl)) (pgs_cons (pg_name (i := 10) sc.nd rfl (Or.inl rfl)) (pgs_cons (pg_name (i := 3) sc.nd rfl (Or.inl rfl)) (pgs_cons (pg_name (i := 11) sc.nd rfl (Or.inl rfl)) pgs_nil)))))
        (pss_cons (ps_if (PW.pt (pw_or (pt_cmpR (k_op_notInD (K := K) rfl (hu65 hr)) (pe_tup (pa_cons (pv 9) (pa_cons (pv 10) pa_nil))) (pv 8) (by rfl)) (pw_or (pt_cmpR (k_op_notIn_seq (K := K) rfl) (pv 3) (pv 5) (by rfl)) (pw_or (pt_val (pe_callB (k_isi (K := K) rfl) (by rfl) (T.free _ (by decide +kernel)) (by decide +kernel) (pa_cons (pv 11) (pa_cons (pe_bltn (by rfl) (T.free _ (by decide +kernel)) (by decide +kernel) (v := .ty "bool") rfl) pa_nil)))) (pw_or1 (pt_cmpR op_lt (pv 11) (pe_int) (nomark _)))))))
          (pss_one (ps_ret (pe_bl)))
          (pss_nil))
        (pss_cons (ps_par (i := 12) (j := 13) (by rfl) sc.nd rfl rfl (by decide) rfl rfl (pa_cons (pe_bm PySem.F.plainAttrs_list PySem.F.slot_list_index PySem.F.type_list_index (k_indexD (K := K) rfl (hu65 hr)) (pv 8) (pa_cons (pe_tup (pa_cons (pv 9) (pa_cons (pv 10) pa_nil))) pa_nil)) (pa_cons (pe_bm PySem.F.plainAttrs_list PySem.F.slot_list_index PySem.F.type_list_index (k_indexD (K := K) rfl (hu65 hr)) (pv 5) (pa_cons (pv 3) pa_nil)) pa_nil)) (by rfl))
        (pss_cons (ps_if (pt_not (pt_val (pe_fn d_law_fits (hr.mono (by decide)) pass0 (pa_cons (pv 0) (pa_cons (pe_ix (k_ix_tup (K := K) rfl) (pe_ix (k_ix_tup (K := K) rfl) (pv 0) (pe_int) (fun _ _ => rfl)) (pv 13) (fun _ _ => rfl)) (pa_cons (pe_ix (k_ix_tup (K := K) rfl) (pe_ix (k_ix_list (K := K) rfl) (pv 6) (pv 12) (fun _ _ => rfl)) (pe_int) (fun _ _ => rfl)) (pa_cons (pe_ix (k_ix_tup (K := K) rfl) (pe_ix (k_ix_list (K := K) rfl) (pv 6) (pv 12) (fun _ _ => rfl)) (pe_int) (fun _ _ => rfl)) (pa_cons (pe_ix (k_ix_tup (K := K) rfl) (pe_ix (k_ix_list (K := K) rfl) (pv 6) (pv 12) (fun _ _ => rfl)) (pe_int) (fun _ _ => rfl)) pa_nil))))))))
          (pss_one (ps_ret (pe_bl)))
          (pss_nil))
        (pss_one (ps_asg (pe_tup (pa_cons (pe_op op_sub (pe_ix (k_ix_list (K := K) rfl) (pv 4) (pv 13) (fun _ _ => rfl)) (pv 11)) (pa_cons (pe_op op_sub (pe_ix (k_ix_list (K := K) rfl) (pv 7) (pv 12) (fun _ _ => rfl)) (pv 11)) pa_nil))) (k_pg_tup (K := K) (n := 2) rfl rfl (pgs_cons (pg_sub (pv 4) (pv 13) set_list) (pgs_cons (pg_sub (pv 7) (pv 12) set_list) pgs_nil)))))))))
      (pss_one (ps_ret (pe_and (pe_cmpR (k_op_eqD (K := K) rfl hr.units) (pe_lc (own := [("_law_room", 15)]) rfl sc.nd (pi_list (pv 4)) (blkOk_by (own := [("_law_room", 15)]) (N := ["_law_catalog_here", "_law_orders", "_law_sends", "_law_supply", "_law_rooms", "_law_names", "_law_wishes_here", "_law_needs", "_law_keys", "_law_name", "_law_place", "_law_count", "_law_at", "_law_spot", "_law_wish", "_law_room", "_law_need", "_law_send"]) (sc := defScope (tp 62)) (by decide +kernel)) (fun _ _ _ _ _ => pg_name (i := 15) sc.nd rfl (Or.inl rfl)) (fun _ _ _ _ _ => pts_one (pt_cmpR op_lt (pv 15) (pe_int) (nomark _))) (fun _ _ _ _ _ => pv 15)) (pe_lst pa_nil) (nomark _)) (pe_one (pe_cmpR (k_op_eqD (K := K) rfl hr.units) (pe_lc (own := [("_law_need", 16)]) rfl sc.nd (pi_list (pv 7)) (blkOk_by (own := [("_law_need", 16)]) (N := ["_law_catalog_here", "_law_orders", "_law_sends", "_law_supply", "_law_rooms", "_law_names", "_law_wishes_here", "_law_needs", "_law_keys", "_law_name", "_law_place", "_law_count", "_law_at", "_law_spot", "_law_wish", "_law_room", "_law_need", "_law_send"]) (sc := defScope (tp 62)) (by decide +kernel)) (fun _ _ _ _ _ => pg_name (i := 16) sc.nd rfl (Or.inl rfl)) (fun _ _ _ _ _ => pts_one (pt_cmpR op_ne (pv 16) (pe_int) (nomark _))) (fun _ _ _ _ _ => pv 16)) (pe_lst pa_nil) (nomark _)))))))))), ?_⟩
    have supAt : ∀ {H1 : Hp} {i : Nat} {z : V}, Same H H1 → xu[i]? = some z → ∃ x b, c.sups[i]? = some x ∧ z = .ref b ∧ SqT K H1 b [.str x.n, .str x.h, .str x.it, .int x.day, .int x.cnt] := fun {H1 i z} s1 hz => by
      obtain ⟨d, hd1, hd2⟩ := hAS.get' hz
      rw [List.getElem?_map] at hd1
      obtain ⟨x, hx, rfl⟩ := Option.map_eq_some_iff.mp hd1
      obtain ⟨b, rfl, hb⟩ := sup_at (hd2.same s1)
      exact ⟨x, b, hx, rfl, hb⟩
    -- rooms, names
    refine ⟨_, rfl, ac, _, _, _, rfl, rfl, C.t, rfl, au, rfl, ⟨_, hSu⟩, ?_⟩
    refine lc_gen (walk_tup (xs := xu)) (fun i => c.sups[i]?.map fun x => .int x.cnt) (by omega) (fun H1 s1 => same_t s1 hSu) (fun i y H1 H2 Rn Ry hi s1 hY hn hy => ?_) (fun pr H1 hpr s1 h1 => ?_)
    · obtain ⟨rfl, hz⟩ := hY
      obtain ⟨x, b, hx, rfl, hb⟩ := supAt s1 hz
      exact ⟨rfl, _, rfl, b, _, _, _, rfl, rfl, hb, rfl, hy _ (by rw [hx]; rfl) _ (Same.refl _)⟩
    have e1 : (List.range xu.length).filterMap (fun i => c.sups[i]?.map fun x => V.int x.cnt) = lessV c.sups.length (fun s => (roomsOf c).getD s 0) fun _ => 0 := by
      rw [ls, fm_get_map]
      have q := lessV_zero (roomsOf c)
      unfold roomsOf at q ⊢
      rw [List.length_map] at q
      rw [← q, List.map_map]
      rfl
    rw [e1] at h1
    refine ⟨_, rfl, ac, _, _, _, rfl, rfl, same_t s1 C.t, rfl, au, rfl, ⟨_, same_t s1 hSu⟩, ?_⟩
    refine lc_gen (walk_tup (xs := xu)) (fun i => c.sups[i]?.map fun x => .str x.n) (by omega) (fun H2 s2 => same_t (s1.trans s2) hSu) (fun i y H2 H3 Rn Ry hi s2 hY hn hy => ?_) (fun pn H2 hpn s2 h2 => ?_)
    · obtain ⟨rfl, hz⟩ := hY
      obtain ⟨x, b, hx, rfl, hb⟩ := supAt (s1.trans s2) hz
      exact ⟨rfl, _, rfl, b, _, _, _, rfl, rfl, hb, rfl, hy _ (by rw [hx]; rfl) _ (Same.refl _)⟩
    have e2 : (List.range xu.length).filterMap (fun i => c.sups[i]?.map fun x => V.str x.n) = (c.sups.map Sup.n).map V.str := by
      rw [ls, fm_get_map, List.map_map]
      rfl
    rw [e2] at h2
    have s12 := s1.trans s2
    refine ⟨_, _, rfl, ?_⟩
    -- the wishes
    refine ⟨_, rfl, a, xs, os, rfl, s12.seq hS, hA.same s12, hlen, fun o ho => (hos o ho).wn.2, fun pw yw H3 s3 hpw h3 hd3 => ?_⟩
    rw [hw] at hd3
    have s13 := s12.trans s3
    have ly := hd3.length
    rw [List.length_map] at ly
    have fwAt : ∀ {H4 : Hp} {i : Nat} {z : V}, Same H3 H4 → yw[i]? = some z → ∃ f b ai, ws[i]? = some f ∧ z = .ref b ∧ SqT K H4 b [.str f.n, .int (f.at_ : Nat), ai, .str f.r, .int f.cnt, .int f.by_] := fun {H4 i z} s4 hz => by
      obtain ⟨d, hd1, hd2⟩ := hd3.get' hz
      rw [List.getElem?_map] at hd1
      obtain ⟨f, hf, rfl⟩ := Option.map_eq_some_iff.mp hd1
      obtain ⟨b, ai, rfl, hb, _⟩ := fw_at (hd2.same s4)
      exact ⟨f, b, ai, hf, rfl, hb⟩
    -- needs, keys
    refine ⟨_, rfl, pw, rfl, ⟨_, SqL.of h3⟩, ?_⟩
    refine lc_gen (walk_list (xs := yw)) (fun i => ws[i]?.map fun f => .int f.cnt) (by omega) (fun H4 s4 => SqL.of (s4 _ _ h3)) (fun i y H4 H5 Rn Ry hi s4 hY hn hy => ?_) (fun pd H4 hpd s4 h4 => ?_)
    · obtain ⟨rfl, hz⟩ := hY
      obtain ⟨f, b, ai, hf, rfl, hb⟩ := fwAt s4 hz
      exact ⟨rfl, _, rfl, b, _, _, _, rfl, rfl, hb, rfl, hy _ (by rw [hf]; rfl) _ (Same.refl _)⟩
    have e4 : (List.range yw.length).filterMap (fun i => ws[i]?.map fun f => V.int f.cnt) = lessV ws.length (fun u => (needsOf ws).getD u 0) fun _ => 0 := by
      rw [ly, fm_get_map]
      have q := lessV_zero (needsOf ws)
      unfold needsOf at q ⊢
      rw [List.length_map] at q
      rw [← q, List.map_map]
      rfl
    rw [e4] at h4
    refine ⟨_, rfl, pw, rfl, ⟨_, SqL.of (s4 _ _ h3)⟩, ?_⟩
    refine lc_dat (K := K) (walk_list (xs := yw)) (fun i => ws[i]?.map keyD) (fun i d _ e => ?_) (by omega) (fun H5 s5 => SqL.of (s5 _ _ (s4 _ _ h3))) (fun i y H5 H6 Rn Ry hi s5 hY hn hy => ?_) (fun pk kw H5 hpk s5 h5 h5d => ?_)
    · obtain ⟨f, _, rfl⟩ := Option.map_eq_some_iff.mp e
      rfl
    · obtain ⟨rfl, hz⟩ := hY
      obtain ⟨f, b, ai, hf, rfl, hb⟩ := fwAt (s4.trans s5) hz
      refine ⟨rfl, _, rfl, _, rfl, b, _, rfl, hb, nw2 (n := 6) rfl (by decide), fun q hq => ?_⟩
      exact hy (keyD f) (by rw [hf]; rfl) _ _ (same_new hq) (.tup (SqT.of upd_same) (.cons (.str _) (.cons (.int _) .nil)))
    rw [ly, fm_get_map] at h5d
    refine ⟨_, _, rfl, ?_⟩
    have s35 := s4.trans s5
    have s15 := s13.trans s35
    have W0 : PW K H H5 pr pn pw pk pd c ws yw kw (fun _ => 0) (fun _ => 0) := by
      have h1' := s35 _ _ (s3 _ _ (s2 _ _ h1))
      have h2' := s35 _ _ (s3 _ _ h2)
      have h3' := s35 _ _ h3
      have h4' := s5 _ _ h4
      have hr1 := s2 _ _ h1
      refine ⟨s15, hpr, Same.free s13 hpd, h1', h2', h3', hd3.same s35, h5, h5d, h4', ne_of_none h1 hpn, ne_of_none hr1 hpw, ne_of_none (s4 _ _ (s3 _ _ hr1)) hpk, ne_of_none (s3 _ _ hr1) hpd, ?_, ?_, ne_of_none h4 hpk⟩
      · exact (ne_of_none (s3 _ _ h2) hpd).symm
      · exact (ne_of_none h3 hpd).symm
    -- no send twice
    have lsv := hSA.length
    rw [List.length_map] at lsv
    have lL : (sendsOf c ws g).length ≤ 60 := Nat.le_trans (sendsTo_len c ws g ws.length) h60
    refine ⟨_, rfl, as, rfl, ⟨_, same_t s15 hSS⟩, ?_⟩
    refine lc_dat (K := K) (walk_tup (xs := sv)) (fun i => (sendsOf c ws g)[i]?.map key3D) (fun i d _ e => ?_) (by omega) (fun H6 s6 => same_t (s15.trans s6) hSS) (fun i y H6 H7 Rn Ry hi s6 hY hn hy => ?_) (fun p3 acc H6 hp3 s6 h6 h6d => ?_)
    · obtain ⟨x, _, rfl⟩ := Option.map_eq_some_iff.mp e
      rfl
    · obtain ⟨rfl, hz⟩ := hY
      obtain ⟨d, hd1, hd2⟩ := hSA.get' hz
      rw [List.getElem?_map] at hd1
      obtain ⟨x, hx, rfl⟩ := Option.map_eq_some_iff.mp hd1
      obtain ⟨b, rfl, hb⟩ := send_at (hd2.same (s15.trans s6))
      refine ⟨rfl, _, rfl, _, rfl, b, _, rfl, hb, nw3, fun q hq => ?_⟩
      exact hy (key3D x) (by rw [hx]; rfl) _ _ (same_new hq) (.tup (SqT.of upd_same) (.cons (.str _) (.cons (.int _) (.cons (.str _) .nil))))
    rw [lsv, fm_get_map] at h6d
    obtain ⟨ks, rfl, k2, k3⟩ := keys3_of h6d
    have lks : ks.length = sv.length := by
      have q := congrArg List.length k2
      rw [List.length_map, List.length_map] at q
      rw [q, lsv]
    refine ⟨p3, ks, rfl, SqL.of h6, k3, ?_, by omega, ?_⟩
    · rw [k2]
      exact sends_nd ok wnd
    refine ⟨_, rfl, as, sv, rfl, .inr (same_t (s15.trans s6) hSS), rfl, _, rfl, iteEf ?_ ?_⟩
    · rw [lks]
      simp
    have W1 := W0.more s6
    have pl : (PL c ws g).length = sv.length := by
      have q := congrArg List.length (PL_map c ws g)
      rw [List.length_map] at q
      rw [q, lsv]
    have ksm : ∀ z ∈ ws.map keyD, sm z = true := fun z hz => by
      obtain ⟨f, hf, rfl⟩ := List.mem_map.mp hz
      exact (keyD_sm (wok f hf).nn).1
    have knd : (ws.map keyD).Nodup := map_nodup keyD FW.key wnd fun x _ y _ e => keyD_inj e
    have nsm : ∀ z ∈ (c.sups.map Sup.n).map PyData.str, sm z = true := fun z hz => by
      obtain ⟨n, hn, rfl⟩ := List.mem_map.mp hz
      obtain ⟨x, hx, rfl⟩ := List.mem_map.mp hn
      exact (Sm.name (ok.sups x hx).nn).1
    have nnd : ((c.sups.map Sup.n).map PyData.str).Nodup := map_nodup PyData.str id (by rw [List.map_id]; exact ok.snd) fun x _ y _ e => by
      injection e
    have ksh : SeqAt.shaped (.list (ws.map keyD)) = true := (Sm.lst (n := 2) fun z hz => by
      obtain ⟨f, hf, rfl⟩ := List.mem_map.mp hz
      exact keyD_sm (wok f hf).nn).shaped
    have nsh : SeqAt.shaped (.list ((c.sups.map Sup.n).map PyData.str)) = true := (Sm.lst (n := 1) fun z hz => by
      obtain ⟨n, hn, rfl⟩ := List.mem_map.mp hz
      obtain ⟨x, hx, rfl⟩ := List.mem_map.mp hn
      exact Sm.name (ok.sups x hx).nn).shaped
    refine ⟨_, rfl, as, rfl, ⟨_, same_t (s15.trans s6) hSS⟩, ?_⟩
    refine for_it (walk_tup (xs := sv)) (fun i σ H7 => ∃ (v3 v9 v10 v11 v12 v13 : Option V), σ = [some (.ref ac), some (.ref a), some (.ref as), v3, some (.ref pr), some (.ref pn), some (.ref pw), some (.ref pd), some (.ref pk), v9, v10, v11, v12, v13, none, none, none, none] ∧ PW K H H7 pr pn pw pk pd c ws yw kw (takeS ((PL c ws g).take i)) (takeU ((PL c ws g).take i)))
      ⟨_, _, _, _, _, _, rfl, W1⟩ (fun i σ H7 _ ⟨_, _, _, _, _, _, _, W⟩ => same_t W.s hSS) ?_ ?_
    · rintro i y σ H7 H8 hi ⟨v3, v9, v10, v11, v12, v13, rfl, W⟩ ⟨rfl, hz⟩
      obtain ⟨e, he⟩ : ∃ e, (PL c ws g)[i]? = some e := ⟨_, List.getElem?_eq_getElem (by rw [pl]; exact hi)⟩
      obtain ⟨f, x, hf, hx, gpos, ex⟩ := sendsAt_some c ws g (PL_mem c ws g (List.mem_of_getElem? he))
      have hsx : (sendsOf c ws g)[i]? = some e.2 := by
        rw [← PL_map, List.getElem?_map, he]
        rfl
      obtain ⟨d, hd1, hd2⟩ := hSA.get' hz
      rw [List.getElem?_map, hsx] at hd1
      cases hd1
      obtain ⟨b, rfl, hb⟩ := send_at (hd2.same W.s)
      have hfm := List.mem_of_getElem? hf
      have hxm := List.mem_of_getElem? hx
      have fk := wok f hfm
      have xk := ok.sups x hxm
      have tS := takeS_snoc he
      have tU := takeU_snoc he
      rw [ex] at hb tS tU
      generalize he1 : e.1.1 = u at *
      generalize he2 : e.1.2 = t at *
      have cu : 1 ≤ g t u := by omega
      have ut : u < ws.length := (List.getElem?_eq_some_iff.mp hf).1
      have tt : t < c.sups.length := (List.getElem?_eq_some_iff.mp hx).1
      refine ⟨b, _, rfl, hb, rfl, _, _, rfl, _, _, rfl, _, _, rfl, _, _, rfl, rfl, ?_⟩
      -- the tests
      refine ⟨_, rfl, _, rfl, by show 2 ≤ sizeLine; decide, fun t1 ht1 => ?_⟩
      have W2 := W.more (same_new (o := .tup [.str f.n, .int (f.at_ : Nat)]) ht1)
      have hkj : (ws.map keyD)[u]? = some (keyD f) := by rw [List.getElem?_map, hf]; rfl
      have hnj : ((c.sups.map Sup.n).map PyData.str)[t]? = some (.str x.n) := by rw [List.getElem?_map, List.getElem?_map, hx]; rfl
      refine ⟨_, rfl, keyD f, ws.map keyD, .tup (SqT.of upd_same) (.cons (.str _) (.cons (.int _) .nil)), .lst (SqL.of W2.k) W2.kd, (keyD_sm fk.nn).shaped, ksh, _, rfl, iteEf ?_ ?_⟩
      · rw [any_at (keyD_sm fk.nn).1 ksm hkj]
        rfl
      have xin : x.n ∈ c.sups.map Sup.n := List.mem_map_of_mem hxm
      refine ⟨_, rfl, _, rfl, pn, _, rfl, .inl (SqL.of W2.n), rfl, flat_strs _, _, rfl, iteEf (ni_str xin) ?_⟩
      refine ⟨_, rfl, _, _, _, _, false, rfl, .ty _, .base (.int _), kit_ty (by decide +kernel), _, rfl, iteF ?_⟩
      refine ⟨_, rfl, _, _, rfl, rfl, _, rfl, iteDn (by show ¬ g t u < 1; omega) ?_⟩
      have hb : SqT K H8 b [.str f.n, .int (f.at_ : Nat), .str x.n, .int (g t u)] := hb
      -- the places
      have dk : ∀ {H9 : Hp} {z : Addr}, SqT K H9 z [.str f.n, .int (f.at_ : Nat)] → Dp K H9 (.ref z) (keyD f) := fun q => .tup q (.cons (.str _) (.cons (.int _) .nil))
      refine ⟨_, rfl, .inl ⟨rfl, _, SqL.of W2.k⟩, _, rfl, _, rfl, by show 2 ≤ sizeLine; decide, fun t2 ht2 => ?_⟩
      have W3 := W2.more (same_new (o := .tup [.str f.n, .int (f.at_ : Nat)]) ht2)
      refine ⟨pk, _, keyD f, ws.map keyD, u, keyD f, rfl, rfl, .lst (SqL.of W3.k) W3.kd, dk (SqT.of upd_same), ksh, (keyD_sm fk.nn).shaped, hkj, (eqv_iff (keyD_sm fk.nn).1 (keyD_sm fk.nn).1).mpr rfl, no_before (keyD_sm fk.nn).1 ksm knd hkj, ?_⟩
      have xsm := Sm.name xk.nn
      refine ⟨_, rfl, .inl ⟨rfl, _, SqL.of W3.n⟩, _, rfl, pn, _, .str x.n, (c.sups.map Sup.n).map PyData.str, t, .str x.n, rfl, rfl, .lst (SqL.of W3.n) (DpAll.ofStrs _), .str _, nsh, xsm.shaped, hnj, (eqv_iff xsm.1 xsm.1).mpr rfl, no_before xsm.1 nsm nnd hnj, ?_⟩
      refine ⟨_, _, rfl, ?_⟩
      generalize upd (upd H8 t1 (.tup [.str f.n, .int (f.at_ : Nat)])) t2 (.tup [.str f.n, .int (f.at_ : Nat)]) = H9 at W3 ⊢
      -- it fits
      obtain ⟨zx, hzx, hzd⟩ := hAS.get (i := t) (d := x.d) (by rw [List.getElem?_map, hx]; rfl)
      obtain ⟨zf, hzf, hzfd⟩ := W3.wd.get (i := u) (d := f.d) (by rw [List.getElem?_map, hf]; rfl)
      obtain ⟨bf, ai, rfl, hbf, hai⟩ := fw_at hzfd
      have serv : serves c x f.its f.r f.by_ = true := by
        have q := (G.gp t u gpos).2
        unfold ablesOf at q
        rw [List.getD_eq_getElem?_getD, List.getElem?_map, hf] at q
        have q : t ∈ servers c f.its f.r f.by_ := q
        unfold servers at q
        have q2 := (List.mem_filter.mp q).2
        rw [hx] at q2
        exact q2
      refine ⟨_, rfl, _, rfl, ac, _, _, _, rfl, rfl, same_t W3.s C.t, rfl, _, rfl, au, xu, _, zx, rfl, rfl, same_t W3.s hSu, at_of (j := t) rfl hzx, ?_⟩
      refine ⟨_, rfl, _, rfl, pw, yw, _, _, rfl, rfl, SqL.of W3.w, at_of (j := u) rfl hzf, bf, _, _, _, rfl, rfl, hbf, rfl, ?_⟩
      refine ⟨_, rfl, _, rfl, pw, yw, _, _, rfl, rfl, SqL.of W3.w, at_of (j := u) rfl hzf, bf, _, _, _, rfl, rfl, hbf, rfl, ?_⟩
      refine ⟨_, rfl, _, rfl, pw, yw, _, _, rfl, rfl, SqL.of W3.w, at_of (j := u) rfl hzf, bf, _, _, _, rfl, rfl, hbf, rfl, ?_⟩
      refine ⟨.ref ac, zx, ai, c, x, f.its, f.r, f.by_, rfl, hc.same W3.s, ok, hzd.same W3.s, hxm, hai, fk.rn, fun H10 s10 => ?_⟩
      have W4 := W3.more s10
      rw [serv]
      refine ⟨_, rfl, iteF ?_⟩
      -- what is left
      have gR : (lessV c.sups.length (fun s => (roomsOf c).getD s 0) (takeS ((PL c ws g).take i)))[t]? = some _ := lessV_get tt
      have gD : (lessV ws.length (fun u => (needsOf ws).getD u 0) (takeU ((PL c ws g).take i)))[u]? = some _ := lessV_get ut
      refine ⟨_, rfl, _, rfl, pr, _, _, _, rfl, rfl, SqL.of W4.r, at_of (j := t) rfl gR, _, rfl, _, _, rfl, rfl, ?_⟩
      refine ⟨_, rfl, _, rfl, pd, _, _, _, rfl, rfl, SqL.of W4.d, at_of (j := u) rfl gD, _, rfl, _, _, rfl, rfl, by show 2 ≤ sizeLine; decide, fun tp htp => ?_⟩
      have W5 := W4.more (same_new (o := .tup [.int ((roomsOf c).getD t 0 - takeS ((PL c ws g).take i) t - g t u), .int ((needsOf ws).getD u 0 - takeU ((PL c ws g).take i) u - g t u)]) htp)
      refine ⟨tp, _, rfl, SqT.of upd_same, rfl, ?_⟩
      have W6 := W5.putR (T' := takeS ((PL c ws g).take (i + 1)))
      have W7 := W6.putD (U' := takeU ((PL c ws g).take (i + 1)))
      have eR := lessV_set (n := c.sups.length) (F := fun s => (roomsOf c).getD s 0) (T := takeS ((PL c ws g).take i)) (T' := takeS ((PL c ws g).take (i + 1))) (j := t) (d := g t u) tS
      have eD := lessV_set (n := ws.length) (F := fun u => (needsOf ws).getD u 0) (T := takeU ((PL c ws g).take i)) (T' := takeU ((PL c ws g).take (i + 1))) (j := u) (d := g t u) tU
      refine ⟨_, _, rfl, _, rfl, _, rfl, pr, _, _, t, rfl, rfl, W5.r, ixN_nat (by rw [lessV_len]; exact tt), ?_⟩
      rw [eR]
      refine ⟨_, _, rfl, _, rfl, _, rfl, pd, _, _, u, rfl, rfl, W6.d, ixN_nat (by rw [lessV_len]; exact ut), ?_⟩
      rw [eD]
      exact ⟨rfl, _, _, _, _, _, _, rfl, W7⟩
    · rintro σ H7 ⟨v3, v9, v10, v11, v12, v13, rfl, W⟩
      have fullS : takeS ((PL c ws g).take sv.length) = takeS (PL c ws g) := by rw [← pl, List.take_length]
      have fullU : takeU ((PL c ws g).take sv.length) = takeU (PL c ws g) := by rw [← pl, List.take_length]
      rw [fullS, fullU] at W
      have rl : (roomsOf c).length = c.sups.length := List.length_map ..
      have al : (ablesOf c ws).length = ws.length := List.length_map ..
      have rooms0 : ∀ s, s < c.sups.length → 0 ≤ (roomsOf c).getD s 0 - takeS (PL c ws g) s := fun s hs => by
        have q1 := G.row s (by rw [rl]; exact hs)
        have q2 := G.r0 s (by rw [rl]; exact hs)
        have q3 : takeS (PL c ws g) s = KF.sumR ws.length fun u => g s u := takeS_all G.g0 hs ws.length (Nat.le_refl _)
        rw [al] at q1
        omega
      have needs0 : ∀ u, u < ws.length → (needsOf ws).getD u 0 - takeU (PL c ws g) u = 0 := fun u hu => by
        have q1 := G.col u (by rw [al]; exact hu)
        have q3 : takeU (PL c ws g) u = _ := takeU_all G.g0 ws.length (Nat.le_refl _)
        rw [if_pos hu] at q3
        rw [rl] at q1
        omega
      have nones : ∀ n : Nat, (List.range n).filterMap (fun _ => (none : Option V)) = [] := fun n => by simp
      have lrl := lessV_len c.sups.length (fun s => (roomsOf c).getD s 0) (takeS (PL c ws g))
      have lul := lessV_len ws.length (fun u => (needsOf ws).getD u 0) (takeU (PL c ws g))
      have emp : PyData.eqv (.list []) (.list []) = true := by rw [eqv_nil]; rfl
      refine ⟨_, rfl, pr, rfl, ⟨_, SqL.of W.r⟩, ?_⟩
      refine lc_gen (walk_list (xs := lessV c.sups.length (fun s => (roomsOf c).getD s 0) (takeS (PL c ws g)))) (fun _ => none) (by omega) (fun H8 s8 => SqL.of (s8 _ _ W.r)) (fun i y H8 H9 Rn Ry hi s8 hY hn hy => ?_) (fun D H8 hD s8 h8 => ?_)
      · obtain ⟨rfl, hz⟩ := hY
        have hs : i < c.sups.length := by rw [lrl] at hi; exact hi
        rw [lessV_get hs] at hz
        cases hz
        have q := rooms0 i hs
        exact ⟨rfl, _, rfl, _, _, rfl, rfl, _, rfl, iteDn (by omega) (hn rfl _ (Same.refl _))⟩
      rw [nones] at h8
      have W8 := W.more s8
      refine ⟨by show 0 ≤ sizeLine; decide, fun q hq => ?_⟩
      have sq := same_new (o := .lst []) hq
      have W9 := W8.more sq
      refine ⟨.list [], .list [], .lst (SqL.of (sq _ _ h8)) .nil, .lst (SqL.of upd_same) .nil, (Sm.lst (n := 1) Sm.nil).shaped, (Sm.lst (n := 1) Sm.nil).shaped, _, rfl, iteE emp ?_⟩
      refine ⟨_, rfl, pd, rfl, ⟨_, SqL.of W9.d⟩, ?_⟩
      refine lc_gen (walk_list (xs := lessV ws.length (fun u => (needsOf ws).getD u 0) (takeU (PL c ws g)))) (fun _ => none) (by omega) (fun H8 s8 => SqL.of (s8 _ _ W9.d)) (fun i y H10 H11 Rn Ry hi s10 hY hn hy => ?_) (fun D2 H10 hD2 s10 h10 => ?_)
      · obtain ⟨rfl, hz⟩ := hY
        have hs : i < ws.length := by rw [lul] at hi; exact hi
        rw [lessV_get hs] at hz
        cases hz
        have q := needs0 i hs
        refine ⟨rfl, _, rfl, rfl, _, rfl, iteEf ?_ (hn rfl _ (Same.refl _))⟩
        rw [q]
        rfl
      rw [nones] at h10
      refine ⟨by show 0 ≤ sizeLine; decide, fun q2 hq2 => ?_⟩
      have sq2 := same_new (o := .lst []) hq2
      have W10 := (W9.more s10).more sq2
      refine ⟨.list [], .list [], .lst (SqL.of (sq2 _ _ h10)) .nil, .lst (SqL.of upd_same) .nil, (Sm.lst (n := 1) Sm.nil).shaped, (Sm.lst (n := 1) Sm.nil).shaped, ?_⟩
      rw [emp]
      exact k _ W10.s
end
end KS
set_option Elab.async false
set_option linter.all false
set_option maxRecDepth 100000
set_option maxHeartbeats 8000000
set_option pp.maxSteps 400
/-! The law's alike: equal data are alike. -/
namespace KS
open PySem PySem.Spec PyProof.Rows L2
/-- texts, whole numbers and short tuples of such, n deep -/
def small : Nat → PyData → Prop
  | 0, _ => False
  | _ + 1, .str _ => True
  | _ + 1, .int _ => True
  | n + 1, .tuple ds => ds.length ≤ 100 ∧ ∀ d ∈ ds, small n d
  | _, _ => False
theorem small_mono : ∀ {n m : Nat} {d : PyData}, n ≤ m → small n d → small m d
  | 0, _, _, _, h => h.elim
  | n + 1, 0, _, q, _ => absurd q (Nat.not_succ_le_zero _)
  | n + 1, m + 1, d, q, h => by
    cases d with
    | str s => exact True.intro
    | int i => exact True.intro
    | tuple ds => exact ⟨h.1, fun d hd => small_mono (Nat.le_of_succ_le_succ q) (h.2 d hd)⟩
    | _ => exact False.elim h
theorem small_strs {l : List Str} (h : l.length ≤ 100) : small 2 (strsD l) := ⟨by rw [List.length_map]; exact h, fun d hd => by
  obtain ⟨s, _, rfl⟩ := List.mem_map.mp hd
  exact True.intro⟩
theorem small_wish {x : Wish} (h : x.its.length ≤ 100) : small 3 x.d := ⟨by show 2 ≤ 100; decide, fun d hd => by
  rcases List.mem_cons.mp hd with rfl | hd
  · exact small_strs h
  · rw [List.mem_singleton.mp hd]
    exact True.intro⟩
theorem small_order {c : Cat} {o : Order} (h : o.Ok c) : small 5 o.d := ⟨by show 5 ≤ 100; decide, fun d hd => by
  have hw : small 4 (.tuple (o.ws.map Wish.d)) := ⟨by rw [List.length_map]; exact Nat.le_trans h.wn.2 (by decide), fun d hd => by
    obtain ⟨x, hx, rfl⟩ := List.mem_map.mp hd
    exact small_wish (Nat.le_trans (h.ws x hx).names.2.1 (by decide))⟩
  rcases List.mem_cons.mp hd with rfl | hd
  · exact True.intro
  rcases List.mem_cons.mp hd with rfl | hd
  · exact True.intro
  rcases List.mem_cons.mp hd with rfl | hd
  · exact hw
  rcases List.mem_cons.mp hd with rfl | hd
  · exact True.intro
  · rw [List.mem_singleton.mp hd]
    exact True.intro⟩
section
variable {P : Program} {w : World} {K : PySem.W.Frag} {mg : Str → Option Value} {base : Heap}
def spAlike (K : PySem.W.Frag) (n : Nat) : Sp := fun vs H Q _ => ∃ (v u : V) (d : PyData), vs = [v, u] ∧ small n d ∧ Dp K H v d ∧ Dp K H u d ∧ ∀ H', Same H H' → Q (.bl true) H'
theorem sc_alike : FnScope ["_law_found", "_law_due", "_law_k"] ["_law_found", "_law_due"] (defScope (tp 53)) := ⟨rfl, rfl, rfl, by decide +kernel, rfl, by decide +kernel, by decide +kernel⟩
theorem kit_tl : PySem.W.kitAny K (.type "tuple") [.type "tuple", .type "list"] = some true := kitAny_cons (b := true) (kit_ty (by decide +kernel)) (fun e => by cases e) fun _ => rfl
theorem kit_no {a : String} (h1 : kitB a "tuple" = some false) (h2 : kitB a "list" = some false) : PySem.W.kitAny K (.type a) [.type "tuple", .type "list"] = some false :=
  kitAny_cons (b := false) (kit_ty h1) (fun _ => kitAny_cons (b := false) (kit_ty h2) (fun _ => kitAny_nil) fun e => by cases e) fun e => by cases e
theorem cls_tl : Paired ClsV [.ty "tuple", .ty "list"] [.type "tuple", .type "list"] := .cons (.ty _) (.cons (.ty _) .nil)
theorem ok_alike (T : Tx K mg) : ∀ n, Ok P w K mg base CX0 (n + 1) "_law_alike" ["_law_found", "_law_due"] (spAlike K n)
  | 0 => by
    have sc := sc_alike
    refine Ok.mk_ (k := 0) (i := 53) T (by decide +kernel) sc (fun _ _ _ _ _ _ us hl => match us, hl with | [_, _], _ => rfl) (fun vs H Q E h => ?_) (fun f cdv A outer s H vs Q E hr h => ?_)
    · obtain ⟨v, u, d, _, h, _⟩ := h
      exact h.elim
    · obtain ⟨v, u, d, _, h, _⟩ := h
      exact h.elim
  | n + 1 => by
    have d_law_alike := ok_alike T n
    have sc := sc_alike
    refine Ok.mk_ (k := n + 1) (i := 53) T (by decide +kernel) sc (fun _ _ _ _ _ _ us hl => match us, hl with | [_, _], _ => rfl) (fun vs H Q E h => ?_) (fun f cdv A outer s H vs Q E hr h => ?_)
    · obtain ⟨v, u, d, rfl, _⟩ := h
      rfl
    · obtain ⟨v, u, d, rfl, sm, hv, hu, k⟩ := h
      refine ⟨_, pss_cons (ps_if (pt_val (pe_callB (k_isiT (K := K) rfl) (by rfl) (T.free _ (by decide +kernel)) (by decide +kernel) (pa_cons (pv 1) (pa_cons (pe_tup (pa_cons (pe_bltn (by rfl) (T.free _ (by decide +kernel)) (by decide +kernel) (v := .ty "tuple") rfl) (pa_cons (pe_bltn (by rfl) (T.free _ (by decide +kernel)) (by decide +kernel) (v := .ty "list") rfl) pa_nil))) pa_nil))))
        (pss_cons (ps_if (PW.pt (pw_or (pt_not (pt_val (pe_callB (k_isiT (K := K) rfl) (by rfl) (T.free _ (by decide +kernel)) (by decide +kernel) (pa_cons (pv 0) (pa_cons (pe_tup (pa_cons (pe_bltn (by rfl) (T.free _ (by decide +kernel)) (by decide +kernel) (v := .ty "tuple") rfl) (pa_cons (pe_bltn (by rfl) (T.free _ (by decide +kernel)) (by decide +kernel) (v := .ty "list") rfl) pa_nil))) pa_nil))))) (pw_or1 (pt_cmpR op_ne (pe_callB (k_isi (K := K) rfl) (by rfl) (T.free _ (by decide +kernel)) (by decide +kernel) (pa_cons (pv 0) (pa_cons (pe_bltn (by rfl) (T.free _ (by decide +kernel)) (by decide +kernel) (v := .ty "list") rfl) pa_nil))) (pe_callB (k_isi (K := K) rfl) (by rfl) (T.free _ (by decide +kernel)) (by decide +kernel) (pa_cons (pv 1) (pa_cons (pe_bltn (by rfl) (T.free _ (by decide +kernel)) (by decide +kernel) (v := .ty "list") rfl) pa_nil))) (nomark _)))))
          (pss_one (ps_ret (pe_bl)))
          (pss_nil))
        (pss_cons (ps_if (pt_cmpR op_ne (pe_callB (k_len (K := K) rfl) (by rfl) (T.free _ (by decide +kernel)) (by decide +kernel) (pa_cons (pv 0) pa_nil)) (pe_callB (k_len (K := K) rfl) (by rfl) (T.free _ (by decide +kernel)) (by decide +kernel) (pa_cons (pv 1) pa_nil)) (nomark _))
          (pss_one (ps_ret (pe_bl)))
          (pss_nil))
        (pss_one (ps_ret (pe_cmpR (k_op_eqD (K := K) rfl hr.units) (pe_lc (own := [("_law_k", 2)]) rfl sc.nd (pi_range1 rfl (T.free _ (by decide +kernel)) (pa_cons (pe_callB (k_len (K := K) rfl) (by rfl) (T.free _ (by decide +kernel)) (by decide +kernel) (pa_cons (pv 1) pa_nil)) pa_nil)) (blkOk_by (own := [("_law_k", 2)]) (N := ["_law_found", "_law_due", "_law_k"]) (sc := defScope (tp 53)) (by decide +kernel)) (fun _ _ _ _ _ => pg_name (i := 2) sc.nd rfl (Or.inl rfl)) (fun _ _ _ _ _ => pts_one (pt_not (pt_val (pe_fn d_law_alike (hr.mono (Nat.le_refl _)) pass0 (pa_cons (pe_ix (k_ix_tup (K := K) rfl) (pv 0) (pv 2) (fun _ _ => rfl)) (pa_cons (pe_ix (k_ix_tup (K := K) rfl) (pv 1) (pv 2) (fun _ _ => rfl)) pa_nil)))))) (fun _ _ _ _ _ => pv 2)) (pe_lst pa_nil) (nomark _))))))
        (pss_nil))
      (pss_cons (ps_if (PW.pt (pw_or (pt_cmpR op_isN (pv 1) (pe_non) (nomark _)) (pw_or1 (pt_val (pe_callB (k_isi (K := K) rfl) (by rfl) (T.free _ (by decide +kernel)) (by decide +kernel) (pa_cons (pv 1) (pa_cons (pe_bltn (by rfl) (T.free _ (by decide +kernel)) (by decide +kernel) (v := .ty "str") rfl) pa_nil)))))))
        (pss_one (ps_ret (pe_and (pe_cmpR op_eq (pv 0) (pv 1) (nomark _)) (pe_one (pe_cmpR op_eq (pe_callB (k_isi (K := K) rfl) (by rfl) (T.free _ (by decide +kernel)) (by decide +kernel) (pa_cons (pv 0) (pa_cons (pe_bltn (by rfl) (T.free _ (by decide +kernel)) (by decide +kernel) (v := .ty "str") rfl) pa_nil))) (pe_callB (k_isi (K := K) rfl) (by rfl) (T.free _ (by decide +kernel)) (by decide +kernel) (pa_cons (pv 1) (pa_cons (pe_bltn (by rfl) (T.free _ (by decide +kernel)) (by decide +kernel) (v := .ty "str") rfl) pa_nil))) (nomark _))))))
        (pss_nil))
      (pss_one (ps_ret (pe_and (pe_callB (k_isi (K := K) rfl) (by rfl) (T.free _ (by decide +kernel)) (by decide +kernel) (pa_cons (pv 0) (pa_cons (pe_bltn (by rfl) (T.free _ (by decide +kernel)) (by decide +kernel) (v := .ty "int") rfl) pa_nil))) (pe_and (pe_cmpR op_eq (pe_callB (k_isi (K := K) rfl) (by rfl) (T.free _ (by decide +kernel)) (by decide +kernel) (pa_cons (pv 0) (pa_cons (pe_bltn (by rfl) (T.free _ (by decide +kernel)) (by decide +kernel) (v := .ty "bool") rfl) pa_nil))) (pe_callB (k_isi (K := K) rfl) (by rfl) (T.free _ (by decide +kernel)) (by decide +kernel) (pa_cons (pv 1) (pa_cons (pe_bltn (by rfl) (T.free _ (by decide +kernel)) (by decide +kernel) (v := .ty "bool") rfl) pa_nil))) (nomark _)) (pe_one (pe_cmpR op_eq (pv 0) (pv 1) (nomark _)))))))), ?_⟩
      cases d with
      | str z =>
        cases dp_str hv
        cases dp_str hu
        refine ⟨_, rfl, by show 2 ≤ sizeLine; decide, fun t ht => ?_⟩
        have st := same_new (o := .tup [.ty "tuple", .ty "list"]) ht
        refine ⟨_, t, _, _, _, false, rfl, upd_same, cls_tl, .base (.str _), kit_no (by decide +kernel) (by decide +kernel), _, rfl, iteF ?_⟩
        refine ⟨_, rfl, rfl, _, rfl, iteDn (fun e => by cases e) ?_⟩
        refine ⟨_, rfl, _, _, _, _, true, rfl, .ty _, .base (.str _), kit_ty (by decide +kernel), _, rfl, iteT ?_⟩
        refine ⟨_, rfl, _, rfl, rfl, _, rfl, iteD rfl ?_⟩
        refine ⟨_, rfl, _, _, _, _, true, rfl, .ty _, .base (.str _), kit_ty (by decide +kernel), ?_⟩
        refine ⟨_, rfl, _, _, _, _, true, rfl, .ty _, .base (.str _), kit_ty (by decide +kernel), rfl, ?_⟩
        exact k _ st
      | int z =>
        cases dp_int hv
        cases dp_int hu
        refine ⟨_, rfl, by show 2 ≤ sizeLine; decide, fun t ht => ?_⟩
        have st := same_new (o := .tup [.ty "tuple", .ty "list"]) ht
        refine ⟨_, t, _, _, _, false, rfl, upd_same, cls_tl, .base (.int _), kit_no (by decide +kernel) (by decide +kernel), _, rfl, iteF ?_⟩
        refine ⟨_, rfl, rfl, _, rfl, iteDn (fun e => by cases e) ?_⟩
        refine ⟨_, rfl, _, _, _, _, false, rfl, .ty _, .base (.int _), kit_ty (by decide +kernel), _, rfl, iteF ?_⟩
        refine ⟨_, rfl, _, _, _, _, true, rfl, .ty _, .base (.int _), kit_ty (by decide +kernel), _, rfl, iteT ?_⟩
        refine ⟨_, rfl, _, _, _, _, false, rfl, .ty _, .base (.int _), kit_ty (by decide +kernel), ?_⟩
        refine ⟨_, rfl, _, _, _, _, false, rfl, .ty _, .base (.int _), kit_ty (by decide +kernel), rfl, _, rfl, iteD rfl ?_⟩
        refine ⟨_, rfl, _, rfl, rfl, ?_⟩
        rw [decide_eq_true rfl]
        exact k _ st
      | tuple ds =>
        obtain ⟨len, each⟩ := sm
        obtain ⟨a, xs, rfl, hS, hA⟩ := Dp.tup_inv hv
        obtain ⟨b, ys, rfl, hS2, hA2⟩ := Dp.tup_inv hu
        have l1 := hA.length
        have l2 := hA2.length
        refine ⟨_, rfl, by show 2 ≤ sizeLine; decide, fun t ht => ?_⟩
        have st := same_new (o := .tup [.ty "tuple", .ty "list"]) ht
        refine ⟨_, t, _, _, _, true, rfl, upd_same, cls_tl, tyT (same_t st hS2), kit_tl, _, rfl, iteT ?_⟩
        refine ⟨_, rfl, by show 2 ≤ sizeLine; decide, fun t2 ht2 => ?_⟩
        have st2 := st.trans (same_new (o := .tup [.ty "tuple", .ty "list"]) ht2)
        refine ⟨_, t2, _, _, _, true, rfl, upd_same, cls_tl, tyT (same_t st2 hS), kit_tl, _, rfl, iteF ?_⟩
        refine ⟨_, rfl, _, _, _, _, false, rfl, .ty _, tyT (same_t st2 hS), kit_ty (by decide +kernel), ?_⟩
        refine ⟨_, rfl, _, _, _, _, false, rfl, .ty _, tyT (same_t st2 hS2), kit_ty (by decide +kernel), rfl, _, rfl, iteEf rfl ?_⟩
        refine ⟨_, rfl, a, xs, rfl, .inr (same_t st2 hS), _, rfl, b, ys, rfl, .inr (same_t st2 hS2), rfl, _, rfl, iteEf (by rw [l1, l2]; simp) ?_⟩
        refine ⟨_, rfl, b, ys, rfl, .inr (same_t st2 hS2), _, rfl, by omega, by omega, ?_⟩
        have en : ((ys.length : Nat) : Int).toNat = ys.length := Int.toNat_natCast _
        rw [en]
        refine lc_gen (walk_range (lo := 0) (n := ys.length)) (fun _ => none) (by omega) (fun _ _ => True.intro) (fun i y H1 H2 Rn Ry hi s1 hY hn hy => ?_) (fun D H1 hD s1 h1 => ?_)
        · obtain ⟨rfl, rfl⟩ := hY
          have ek : ((0 : Int) + (i : Nat)) = ((i : Nat) : Int) := by omega
          show gName 2 (V.int ((0 : Int) + (i : Nat))) _ _ _
          rw [ek]
          have s2 := st2.trans s1
          have hd : ds[i]? = some (ds[i]'(by omega)) := List.getElem?_eq_getElem (by omega)
          generalize ds[i]'(by omega) = d at hd
          obtain ⟨vx, hvx, hdx⟩ := hA.get hd
          obtain ⟨vy, hvy, hdy⟩ := hA2.get hd
          refine ⟨rfl, _, rfl, _, rfl, a, xs, _, vx, rfl, rfl, same_t s2 hS, at_of (j := i) rfl hvx, _, rfl, _, rfl, b, ys, _, vy, rfl, rfl, same_t s2 hS2, at_of (j := i) rfl hvy, ?_⟩
          exact ⟨vx, vy, d, rfl, each d (List.mem_of_getElem? hd), hdx.same s2, hdy.same s2, fun H3 s3 => ⟨_, rfl, iteF (hn rfl _ s3)⟩⟩
        · have nones : ∀ n : Nat, (List.range n).filterMap (fun _ => (none : Option V)) = [] := fun n => by simp
          rw [nones] at h1
          refine ⟨by show 0 ≤ sizeLine; decide, fun q hq => ?_⟩
          have sq := same_new (o := .lst []) hq
          refine ⟨.list [], .list [], .lst (SqL.of (sq _ _ h1)) .nil, .lst (SqL.of upd_same) .nil, (Sm.lst (n := 1) Sm.nil).shaped, (Sm.lst (n := 1) Sm.nil).shaped, ?_⟩
          rw [eqv_nil]
          exact k _ ((st2.trans s1).trans sq)
      | _ => exact sm.elim
end
end KS
set_option Elab.async false
set_option linter.all false
set_option maxRecDepth 100000
set_option maxHeartbeats 4000000
set_option pp.maxSteps 400
/-! How much more, day by day: it does not fall, and stands from day 9 on; so twelve days tell what sixty-one tell. What orders that were kept leave. -/
namespace KS
open PySem PySem.Spec PyProof.Rows L2
theorem serves_mono {c : Cat} {s : Sup} {its : List Str} {r : Str} {b b' : Int} (h : b ≤ b') (q : serves c s its r b = true) : serves c s its r b' = true := by
  unfold serves at q ⊢
  rw [Bool.and_eq_true] at q ⊢
  refine ⟨q.1, ?_⟩
  have q2 := q.2
  cases e : laneOf c s.h r with
  | none => rw [e] at q2; cases q2
  | some l =>
    rw [e] at q2
    have q3 : s.day + l.hi ≤ b := of_decide_eq_true q2
    exact decide_eq_true (by omega)
theorem laneOf_mem {c : Cat} {h r : Str} {l : Lane} (e : laneOf c h r = some l) : l ∈ c.lanes := List.mem_of_find?_eq_some e
theorem serves_late {c : Cat} (L : LawCat c) {s : Sup} (hs : s ∈ c.sups) {its : List Str} {r : Str} {b : Int} (h : 9 ≤ b) : serves c s its r b = serves c s its r 9 := by
  unfold serves
  congr 1
  cases e : laneOf c s.h r with
  | none => rfl
  | some l =>
    have q1 := L.day s hs
    have q2 := L.hi l (laneOf_mem e)
    show decide (s.day + l.hi ≤ b) = decide (s.day + l.hi ≤ 9)
    rw [decide_eq_true (by omega), decide_eq_true (by omega)]
theorem fits_snoc (c : Cat) (lot : List FW) (f : FW) (x : Sup) : fitsAny c (lot ++ [f]) x = (fitsAny c lot x || serves c x f.its f.r f.by_) := by
  unfold fitsAny
  rw [List.any_append]
  simp
theorem filter_sum_le {l : List Sup} (h0 : ∀ s ∈ l, 0 ≤ s.cnt) {p q : Sup → Bool} (h : ∀ s ∈ l, p s = true → q s = true) : ((l.filter p).map Sup.cnt).sum ≤ ((l.filter q).map Sup.cnt).sum := by
  induction l with
  | nil => exact Int.le_refl _
  | cons a l ih =>
    have i2 := ih (fun s hs => h0 s (List.mem_cons_of_mem _ hs)) fun s hs => h s (List.mem_cons_of_mem _ hs)
    have a0 := h0 a List.mem_cons_self
    rw [List.filter_cons, List.filter_cons]
    by_cases hp : p a = true
    · rw [if_pos hp, if_pos (h a List.mem_cons_self hp), List.map_cons, List.map_cons, List.sum_cons, List.sum_cons]
      omega
    · rw [if_neg hp]
      by_cases hq : q a = true
      · rw [if_pos hq, List.map_cons, List.sum_cons]
        omega
      · rw [if_neg hq]
        exact i2
section
variable {c : Cat} {ws : List FW} {its : List Str} {r : Str}
theorem over_new (ok : c.Ok) (lot : List FW) {b b' : Int} (h : b ≤ b') : over c (lot ++ [newF its r b']) ≤ over c (lot ++ [newF its r b]) := by
  unfold over
  have q := filter_sum_le (l := c.sups) (fun s hs => (ok.sups s hs).cnt.1) (p := fitsAny c (lot ++ [newF its r b])) (q := fitsAny c (lot ++ [newF its r b'])) fun s hs e => by
    rw [fits_snoc, Bool.or_eq_true] at e ⊢
    exact e.imp id (serves_mono h)
  have e : ((lot ++ [newF its r b']).map FW.cnt).sum = ((lot ++ [newF its r b]).map FW.cnt).sum := by
    rw [List.map_append, List.map_append]
    rfl
  omega
theorem over_add (ok : c.Ok) (lot : List FW) (b : Int) : over c (lot ++ [newF its r b]) ≤ over c lot := by
  unfold over
  have q := filter_sum_le (l := c.sups) (fun s hs => (ok.sups s hs).cnt.1) (p := fitsAny c lot) (q := fitsAny c (lot ++ [newF its r b])) fun s hs e => by
    rw [fits_snoc, e]
    rfl
  have e : ((lot ++ [newF its r b]).map FW.cnt).sum = (lot.map FW.cnt).sum := by
    rw [List.map_append, List.sum_append]
    show _ + (0 + 0) = _
    omega
  omega
theorem more_mono (ok : c.Ok) {b b' : Int} (h : b ≤ b') : moreV c ws its r b ≤ moreV c ws its r b' := by
  obtain ⟨_, m1, _⟩ := more_ex c ws its r b'
  obtain ⟨_, _, m2⟩ := more_ex c ws its r b
  unfold lefts at m1
  obtain ⟨lot, hl, e⟩ := List.mem_map.mp m1
  have q := m2 (0 - over c (lot ++ [newF its r b])) (List.mem_map.mpr ⟨lot, hl, rfl⟩)
  have q2 := over_new (its := its) (r := r) ok lot h
  omega
theorem over_late (L : LawCat c) (lot : List FW) {b : Int} (h : 9 ≤ b) : over c (lot ++ [newF its r b]) = over c (lot ++ [newF its r 9]) := by
  unfold over
  have e : ((lot ++ [newF its r b]).map FW.cnt).sum = ((lot ++ [newF its r 9]).map FW.cnt).sum := by
    rw [List.map_append, List.map_append]
    rfl
  have e2 : c.sups.filter (fitsAny c (lot ++ [newF its r b])) = c.sups.filter (fitsAny c (lot ++ [newF its r 9])) := by
    refine List.filter_congr fun s hs => ?_
    rw [fits_snoc, fits_snoc]
    congr 1
    exact serves_late L hs h
  rw [e, e2]
theorem more_late (L : LawCat c) {b : Int} (h : 9 ≤ b) : moreV c ws its r b = moreV c ws its r 9 := by
  unfold moreV more lefts
  congr 2
  refine List.map_congr_left fun lot _ => ?_
  rw [over_late L lot h]
theorem more_nn (ok : c.Ok) (F : ableB c ws = true) (b : Int) : 0 ≤ moreV c ws its r b := by
  obtain ⟨_, m1, _⟩ := more_ex c ws its r b
  unfold lefts at m1
  obtain ⟨lot, hl, e⟩ := List.mem_map.mp m1
  unfold ableB at F
  have q := of_decide_eq_true (List.all_eq_true.mp F lot hl)
  have q2 := over_add (its := its) (r := r) ok lot b
  omega
end
/-! ### twelve days tell it -/
def prevV (f : Int → Int) (d : Nat) : Int := if 0 < d then f ((d : Int) - 1) else 0
theorem curve_last {f : Int → Int} (m0 : ∀ d : Nat, f (d : Nat) ≤ f ((d + 1 : Nat) : Int)) (nn : 0 ≤ f 0) : ∀ d : Nat, (curveV f d).2 = prevV f d ∧ (curveV f d).1 = (List.range d).filterMap fun i => if prevV f i < f (i : Nat) then some (i, f (i : Nat)) else none
  | 0 => ⟨rfl, rfl⟩
  | d + 1 => by
    obtain ⟨i1, i2⟩ := curve_last m0 nn d
    have le : prevV f d ≤ f (d : Nat) := by
      unfold prevV
      by_cases h : 0 < d
      · rw [if_pos h]
        have q := m0 (d - 1)
        have e1 : ((d - 1 : Nat) : Int) = (d : Int) - 1 := by omega
        have e2 : ((d - 1 + 1 : Nat) : Int) = (d : Int) := by omega
        rw [e1, e2] at q
        exact q
      · rw [if_neg h]
        have e : d = 0 := by omega
        subst e
        exact nn
    have e3 : prevV f (d + 1) = f (d : Nat) := by
      unfold prevV
      rw [if_pos (Nat.succ_pos _)]
      congr 1
      omega
    rw [curveV_succ, range_fm_succ]
    unfold curveStep
    rw [i1, e3]
    by_cases h : prevV f d < f (d : Nat)
    · rw [if_pos h, if_pos h, i2]
      exact ⟨rfl, rfl⟩
    · rw [if_neg h, if_neg h, i1, i2]
      exact ⟨by omega, by simp⟩
theorem curve61 {f : Int → Int} (m0 : ∀ d : Nat, f (d : Nat) ≤ f ((d + 1 : Nat) : Int)) (nn : 0 ≤ f 0) (late : ∀ b : Int, 9 ≤ b → f b = f 9) : (curveV f 61).1 = (List.range 12).filterMap fun i => if prevV f i < f (i : Nat) then some (i, f (i : Nat)) else none := by
  rw [(curve_last m0 nn 61).2, show (61 : Nat) = 12 + 49 from rfl, List.range_add, List.filterMap_append, List.filterMap_map]
  have e : (List.range 49).filterMap ((fun i : Nat => if prevV f i < f (i : Nat) then some (i, f (i : Nat)) else none) ∘ fun x => 12 + x) = [] := by
    refine List.filterMap_eq_nil_iff.mpr fun x _ => ?_
    show (if prevV f (12 + x) < f ((12 + x : Nat) : Int) then some (12 + x, f ((12 + x : Nat) : Int)) else none) = none
    have e1 : prevV f (12 + x) = f 9 := by
      unfold prevV
      rw [if_pos (by omega)]
      exact late _ (by omega)
    have e2 : f ((12 + x : Nat) : Int) = f 9 := late _ (by omega)
    rw [e1, e2, if_neg (Int.lt_irrefl _)]
  rw [e, List.append_nil]
theorem earliest61 {f : Int → Int} {k : Int} (late : ∀ b : Int, 9 ≤ b → f b = f 9) : earliestV f k 61 = ((List.range 12).filter fun d : Nat => decide (k ≤ f (d : Nat))).head? := by
  unfold earliestV
  rw [show (61 : Nat) = 12 + 49 from rfl, List.range_add, List.find?_append, List.head?_filter]
  cases e : (List.range 12).find? fun d : Nat => decide (k ≤ f (d : Nat)) with
  | some d => rfl
  | none =>
    show ((List.range 49).map fun x => 12 + x).find? (fun d : Nat => decide (k ≤ f (d : Nat))) = none
    rw [List.find?_eq_none] at e ⊢
    intro d hd
    obtain ⟨x, _, rfl⟩ := List.mem_map.mp hd
    have q := e 9 (List.mem_range.mpr (by decide))
    rw [late _ (by omega)]
    exact q
/-! ### fewer orders -/
theorem lots_sub2 {α : Type} {l lot : List α} (h : lot ∈ lots l) : lot.Sublist l := by
  obtain ⟨p, rfl⟩ := (mem_lots l lot).mp h
  refine snoc_ind (P := fun l => (masked p l).Sublist l) (List.Sublist.refl _) (fun l x ih => ?_) l
  rw [masked_snoc]
  by_cases e : p l.length = true
  · rw [if_pos e]
    exact ih.append (List.Sublist.refl _)
  · rw [if_neg e, List.append_nil]
    exact ih.trans (List.sublist_append_left _ _)
theorem lots_of_sub {α : Type} (l : List α) : ∀ lot : List α, lot.Sublist l → lot ∈ lots l := by
  refine snoc_ind (P := fun l => ∀ lot : List α, lot.Sublist l → lot ∈ lots l) (fun lot h => ?_) (fun l x ih lot h => ?_) l
  · rw [List.sublist_nil.mp h]
    exact List.mem_singleton.mpr rfl
  · rw [lots_snoc, List.mem_append]
    obtain ⟨l1, l2, rfl, h1, h2⟩ := List.sublist_append_iff.mp h
    rcases l2 with _ | ⟨y, l2⟩
    · rw [List.append_nil]
      exact .inl (ih l1 h1)
    · have q := h2.length_le
      have e2 : l2 = [] := List.length_eq_zero_iff.mp (by rw [List.length_cons, List.length_singleton] at q; omega)
      subst e2
      have e3 : y = x := List.mem_singleton.mp (h2.subset List.mem_cons_self)
      subst e3
      exact .inr (List.mem_map.mpr ⟨l1, ih l1 h1, rfl⟩)
theorem able_sub {c : Cat} {ws ws' : List FW} (h : ws'.Sublist ws) (F : ableB c ws = true) : ableB c ws' = true := by
  unfold ableB at F ⊢
  rw [List.all_eq_true] at F ⊢
  exact fun lot hl => F lot (lots_of_sub _ _ ((lots_sub2 hl).trans h))
theorem wishes_sub {os os' : List Order} (h : os'.Sublist os) : (wishesOf os').Sublist (wishesOf os) := by
  unfold wishesOf
  induction h with
  | slnil => exact List.Sublist.refl _
  | cons a _ ih => exact ih.trans (List.sublist_append_right _ _)
  | cons_cons a _ ih => exact (List.Sublist.refl _).append ih
/-! ### the lot that holds the rest -/
theorem held_lot {ws : List FW} (nd : (ws.map FW.key).Nodup) {ms : List Nat} (q : FW → Bool) (hq : ∀ f ∈ ws, q f = true ↔ ∃ u f', u ∈ ms ∧ ws[u]? = some f' ∧ f'.key = f.key) : ws.filter q = masked (fun u => decide (u ∈ ms)) ws := by
  rw [filter_masked]
  refine masked_congr fun i hi => ?_
  rw [List.getElem?_eq_getElem hi]
  show q ws[i] = decide (i ∈ ms)
  have e := hq ws[i] (List.getElem_mem hi)
  by_cases h : i ∈ ms
  · rw [decide_eq_true h]
    exact e.mpr ⟨i, ws[i], h, List.getElem?_eq_getElem hi, rfl⟩
  · rw [decide_eq_false h, Bool.eq_false_iff]
    intro z
    obtain ⟨u, f', hu, hf, ek⟩ := e.mp z
    exact h (nodup_key FW.key nd hf (List.getElem?_eq_getElem hi) ek ▸ hu)
theorem held_len {ws : List FW} {ms : List Nat} (nd : ms.Nodup) : (masked (fun u => decide (u ∈ ms)) ws).length = (heldD ws ms).length := by
  have e1 : (masked (fun u => decide (u ∈ ms)) ws).length = ((List.range ws.length).filter fun u => decide (u ∈ ms)).length := by
    unfold masked
    have key : ∀ l : List Nat, (∀ i ∈ l, i < ws.length) → (l.filterMap fun i => if decide (i ∈ ms) = true then ws[i]? else none).length = (l.filter fun u => decide (u ∈ ms)).length := by
      intro l
      induction l with
      | nil => exact fun _ => rfl
      | cons i l ih =>
        intro h
        have i2 := ih fun j hj => h j (List.mem_cons_of_mem _ hj)
        rw [List.filter_cons, List.filterMap_cons]
        by_cases e : decide (i ∈ ms) = true
        · rw [if_pos e, if_pos e, List.getElem?_eq_getElem (h i List.mem_cons_self)]
          show (_ :: _).length = _
          rw [List.length_cons, List.length_cons, i2]
        · rw [if_neg e, if_neg e]
          exact i2
    exact key _ fun i hi => List.mem_range.mp hi
  have e2 : (heldD ws ms).length = (ms.filter fun u => decide (u < ws.length)).length := by
    unfold heldD
    clear e1 nd
    induction ms with
    | nil => rfl
    | cons u ms ih =>
      rw [List.filter_cons, List.filterMap_cons]
      by_cases e : u < ws.length
      · rw [if_pos (decide_eq_true e), List.getElem?_eq_getElem e]
        show (_ :: _).length = _
        rw [List.length_cons, List.length_cons, ih]
      · rw [if_neg (by rw [decide_eq_true_eq]; exact e), List.getElem?_eq_none (by omega)]
        exact ih
  rw [e1, e2]
  refine ((List.perm_ext_iff_of_nodup (List.Nodup.sublist List.filter_sublist List.nodup_range) (List.Nodup.sublist List.filter_sublist nd)).mpr fun u => ?_).length_eq
  rw [List.mem_filter, List.mem_filter, List.mem_range, decide_eq_true_eq, decide_eq_true_eq]
  exact And.comm
end KS
set_option Elab.async false
set_option linter.all false
set_option maxRecDepth 100000
set_option maxHeartbeats 8000000
set_option pp.maxSteps 400
/-! try with several clauses `except X as n: return z`, none of which lets the exception pass. -/
namespace KS
open PySem PySem.Spec PyProof.Rows L2
/-- the first clause whose class fits returns its word -/
def wRet (K : PySem.W.Frag) (D : Ends) : List (Value × Str) → WX
  | [] => fun _ _ _ _ => False
  | (c, z) :: r => fun cls d σ H => ∃ b, PySem.W.exmOne K cls c = some b ∧ (b = true → D.rt (.str z) H) ∧ (b = false → wRet K D r cls d σ H)
inductive Rets (X : Cx) (n : Str) : List ExceptHandler → List (Value × Str) → Prop
  | nil : Rets X n [] []
  | cons {x z : Str} {c : Value} {j : Nat} {np p1 p2 p3 : Pos} {hds : List ExceptHandler} {l : List (Value × Str)} (hc : Names X x c) (r : Rets X n hds l) :
      Rets X n (.ExceptHandler (some (.Name x np)) (some n) [.Return (some (.Constant (.str z) j p1)) p2] p3 :: hds) ((c, z) :: l)
section
variable {X : Cx} {n : Str} {i : Nat} {body : List Stmt} {h₀ : ExceptHandler} {hds : List ExceptHandler} {l : List (Value × Str)} {pos : Pos} {tb : WX → TS}
theorem ps_try_ret (hs : X.stack = X.env :: X.outer) (hf : X.env.frame = some X.env.locals) (hN : X.N.Nodup) (hi : X.N[i]? = some n) (hln : X.env.kindOf n = some .local)
    (hb : ∀ (W : WX) (pn : List (Addr × Obj)) (xe : Value → Shared → Prop), Takes (X.tr pn xe) W → PassesOwn (model X.prog X.w) X.A X.env xe → PSs (X.tr pn xe) body (tb W)) (hh : Rets X n (h₀ :: hds) l) : PS X (.Try body (h₀ :: hds) [] [] pos) (fun D σ H => tb (wRet X.K D l) D σ H) := by
  refine ⟨fun pins s σ H D I h => wpAny_Try_except ?_⟩
  have ok := I.ok
  have frames : X.A.frames = some (X.env :: X.outer) := by rw [ok.frames, hs]
  let next : Value → Shared → Prop := fun e z => wpAny (model X.prog X.w) X.A (noteFrame e X.env) (fun _ z2 => wpAny (model X.prog X.w) X.A (setFlight e none) (fun _ z3 => wpAny (model X.prog X.w) X.A (handleBy e X.env (h₀ :: hds)) (SP X pins D) X.xe z3) X.xe z2) X.xe z
  have caught : Takes (X.tr (X.pn ++ pins) next) (wRet X.K D l) := by
    intro u z xx
    obtain ⟨a, B, sI, pins', σ', H', cls, d, rfl, J', nb, up, sky, na, os, ag, w⟩ := xx
    have J : Inv X pins σ' H' sI := J'.ofTry ok
    rw [hs] at sky
    show wpAny (model X.prog X.w) X.A (noteFrame (.ref a) X.env) _ _ z
    refine Sky.land Zc.steady frames hf sky fun g fly up1 => ?_
    have land : ∀ {g2 : Heap}, HandSPX.FlyingZ B (X.env :: X.outer) a (Zc cls d) g2 → z.heap.UpToSlots g2 → ∃ o, Inv (X.suite a ((a, o) :: (X.pn ++ pins))) [] σ' H' { z with heap := g2 } ∧ g2.get? a = some o ∧ Zc cls d o ∧ Inv X pins σ' H' { z with heap := g2 } := fun {g2} f2 u2 => by
      have J2 : Inv X pins σ' H' { z with heap := g2 } := J.landed nb f2.1 (up.trans u2) os ag
      obtain ⟨o, vs, ho, hz, hd⟩ := f2.there
      have nfr : a ∉ frs (X.env :: X.outer) := fun hm => by
        obtain ⟨_, o', e', no⟩ := f2.2.2.1.mem hm
        cases ho.symm.trans e'
        exact no _ hd
      refine ⟨o, J2.suite ho hd na (fun e => nfr ?_) (fun hm => nfr ?_), ho, hz, J2⟩
      · exact List.mem_filterMap.mpr ⟨X.env, List.mem_cons_self, by rw [hf, e]⟩
      · obtain ⟨e, he, q⟩ := List.mem_filterMap.mp hm
        exact List.mem_filterMap.mpr ⟨e, List.mem_cons_of_mem _ he, q⟩
    have go : ∀ {hs' : List ExceptHandler} {l' : List (Value × Str)}, Rets X n hs' l' → wRet X.K D l' cls d σ' H' → wpAny (model X.prog X.w) X.A (handleBy (.ref a) X.env hs') (SP X pins D) X.xe { z with heap := g } := by
      intro hs' l' k
      induction k with
      | nil => exact fun q => q.elim
      | @cons x word c j np p1 p2 p3 hds2 l2 hc r ih =>
        rintro ⟨b, eb, yes, no⟩
        obtain ⟨o, S1, ho, hz, J1⟩ := land fly up1
        refine wpAny_handleBy_cons (codeAny_handlers_test ?_) (by intro q; cases q)
        have looks : PySem.W.Looks (model X.prog X.w) g (typeOf (.ref a)) cls := fun A Q E z2 kp q => wpAny_typeOf_ref (kp _ _ ho) (by rw [hz.1]; exact q)
        have fits := PySem.W.exm_one (M := model X.prog X.w) J1.kIn looks eb
        have named : ∀ {Q E : Value → Shared → Prop}, Q c { z with heap := g } → wpAny (model X.prog X.w) (X.A.mark (some (.ref a))) (eval (.Name x np) X.env) Q E { z with heap := g } := fun {Q E} q => by
          rcases hc with ⟨hg, hdb, hm | ⟨hm, hv, hn⟩⟩
          · exact ld_glob (X := X.suite a ((a, o) :: (X.pn ++ pins))) S1 hg hm q hdb
          · exact ld_blt (X := X.suite a ((a, o) :: (X.pn ++ pins))) S1 hg hm hv q hn hdb
        refine named (fits.here ?_)
        match b, yes, no with
        | false, _, no => exact ih (no rfl)
        | true, yes, _ =>
          refine codeAny_handlers_suite_as (HandSPX.lands_againZ fly fun g4 fly4 up4 => ?_)
          obtain ⟨o4, S4, _, _, _⟩ := land fly4 (up1.trans up4)
          refine store_ok (X := X.suite a ((a, o4) :: (X.pn ++ pins))) (v := .ref a) S4 hN hi (.inl hln) rfl (fun s5 S5 => ?_) (.inr hln)
          have suite : PSs (X.suite a ((a, o4) :: (X.pn ++ pins))) [.Return (some (.Constant (.str word) j p1)) p2] _ := pss_one (ps_ret pe_str)
          refine wpAny_mono (suite.run [] s5 _ H' { nx := fun _ _ => False, rt := D.rt, bk := fun _ _ => False, ct := fun _ _ => False } S5 (yes rfl)) (fun f s6 hsp => ?_) (fun _ _ q => False.elim q)
          have gone : ∀ {σ6 : L2.St} {H6 : Hp} {Q : Shared → Prop}, Inv (X.suite a ((a, o4) :: (X.pn ++ pins))) [] σ6 H6 s6 → (∀ s7, Inv X pins (σ6.set i none) H6 s7 → Q s7) → wpAny (model X.prog X.w) X.A (do bindName X.env n .none; unbindBehindTheSuite X.env n p3) (fun _ s7 => Q s7) X.xe s6 := fun S6 q =>
            gone_ok (S6.unsuite ok) hN hi hln q
          match f, hsp with
          | .ret u, ⟨v6, σ6, H6, S6, r6, q6⟩ => exact gone S6 fun s7 J7 => ⟨_, _, _, J7, r6, q6⟩
          | .next, ⟨_, _, _, q6⟩ => exact False.elim q6
          | .brk, ⟨_, _, _, q6⟩ => exact False.elim q6
          | .cont, ⟨_, _, _, q6⟩ => exact False.elim q6
    exact go hh w
  refine wpAny_mono ((hb (wRet X.K D l) (X.pn ++ pins) next caught PassesOwn.looking).run [] s σ H D (I.toTry _) h) (fun f s1 hsp => ?_) (fun e s1 he => he)
  match f, hsp with
  | .next, ⟨σ', H', J', q⟩ => exact wpAny_execs_nil ⟨σ', H', J'.ofTry ok, q⟩
  | .brk, ⟨σ', H', J', q⟩ => exact ⟨σ', H', J'.ofTry ok, q⟩
  | .cont, ⟨σ', H', J', q⟩ => exact ⟨σ', H', J'.ofTry ok, q⟩
  | .ret u, ⟨v, σ', H', J', r, q⟩ => exact ⟨v, σ', H', J'.ofTry ok, r, q⟩
end
end KS
set_option Elab.async false
set_option linter.all false
set_option maxRecDepth 100000
set_option maxHeartbeats 8000000
set_option pp.maxSteps 400
/-! A lambda with one parameter that has a whole number as its default, handed to a def that calls it without an argument. The tables of code objects are the library's (HandS.Lambda). -/
namespace KS
open PySem PySem.Spec PyProof.Rows L2
open LamX
/-- the parameter a is the lambda's own; its other names are captured ones and globals -/
structure LamD (N : List Str) (a : Str) (sc scope : Scope) : Prop where
  kind : scope.kind = .function
  co : scope.isCoroutine = false
  gen : scope.isGenerator = false
  par : scope.names.lookup a = some .local
  own : ∀ y ∈ scope.names, y.2 ≠ .cell ∧ (y.2 = .local → y.1 ∉ N)
  free : ∀ y ∈ scope.names, y.2 = .free → sc.names.lookup y.1 = some .cell ∨ sc.names.lookup y.1 = some .free
def lamDB (N : List Str) (a : Str) (sc scope : Scope) : Bool :=
  (decide (scope.kind = .function) && !scope.isCoroutine && !scope.isGenerator && decide (scope.names.lookup a = some .local)) &&
    scope.names.all fun y => !decide (y.2 = .cell) && (!decide (y.2 = .local) || !decide (y.1 ∈ N)) && (!decide (y.2 = .free) || (decide (sc.names.lookup y.1 = some .cell) || decide (sc.names.lookup y.1 = some .free)))
theorem lamD_by {N : List Str} {a : Str} {sc scope : Scope} (h : lamDB N a sc scope = true) : LamD N a sc scope := by
  unfold lamDB at h
  simp only [Bool.and_eq_true, Bool.or_eq_true, Bool.not_eq_true', decide_eq_true_eq, decide_eq_false_iff_not, List.all_eq_true] at h
  obtain ⟨⟨⟨⟨k, c⟩, g⟩, p⟩, all⟩ := h
  refine ⟨k, c, g, p, fun y hy => ⟨(all y hy).1.1, fun e => ?_⟩, fun y hy e => ?_⟩
  · exact (all y hy).1.2.elim (fun q => absurd e q) id
  · exact (all y hy).2.elim (fun q => absurd e q) id
theorem LamD.has {X : Cx} {N : List Str} {a : Str} {scope : Scope} (L : LamD N a X.env.scope scope) (ok : X.Ok) : ∀ y ∈ scope.names, y.2 = .free → ∃ c, X.env.cells.lookup y.1 = some c := fun y hy e =>
  (L.free y hy e).elim (fun k => ok.has _ (.inl k)) fun k => ok.has _ (.inr k)
section
variable {X : Cx} {pins : List (Addr × Obj)} {σ : L2.St} {H HZ : Hp} {s s1 : Shared}
abbrev lamQ (X : Cx) : Str := X.env.qual ++ "<lambda>"
abbrev lamClo (X : Cx) (scope : Scope) : List (Str × Addr) := cloFrom X.env.cells scope.names []
/-- the lambda's object, its defaults in the tuple at t -/
abbrev lamO (X : Cx) (params : Arguments) (body : Expr) (scope : Scope) (t : Addr) (doc pm ctv : Value) (c' : Addr) : Obj := PySem.W.kdv_obj "<lambda>" (lamQ X) params (.expr body) scope (lamClo X scope) (.ref t) doc pm c' ctv
theorem lam_made {T : List (Addr × Str)} {c P : Addr} {params : Arguments} {body : Expr} {scope : Scope} {i : Int} {j : Nat} {p0 pos : Pos} {E Q : Value → Shared → Prop} (I : Inv X pins σ H s) (TB : TabB X.base X.mg c P) (hcode : X.env.code = .ref c) (inT : (P, lamQ X) ∈ T)
    (uni : ∀ p ∈ T, p.1 = P → p.2 = lamQ X) (hT : Tabs T H) (hd : params.defaults = [.Constant (.int i) j p0]) (hk : params.kw_defaults = []) (hfree : ∀ y ∈ scope.names, y.2 = .free → ∃ c, X.env.cells.lookup y.1 = some c)
    (h : ∀ (f c' t : Addr) (doc pm ctv v0 : Value) (H1 : Hp) (s' : Shared), Inv X pins σ H1 s' → ExtN H H1 → Tabs T H1 → s'.heap.get? f = some (lamO X params body scope t doc pm ctv c') → H1 f = none → f ∉ frs X.stack →
      s'.heap.get? t = some (PySem.W.kdv_tup [v0]) → H1 t = none → t ∉ frs X.stack → H1 c' = some (CodeO c' (lamQ X)) → Q (.ref f) s') : wpAny (model X.prog X.w) X.A (eval (.Lambda params body scope pos) X.env) Q E s := by
  refine PySem.W.kdv_lam (by rw [hd]; rfl) hk ?_
  rw [hd]
  refine PySem.W.kdv_all1 (wpAny_Constant_int (PySem.W.kdv_all0 ?_))
  generalize hv : Value.int i _ = v0
  have I1 := I.tok (s.toks + 1)
  revert I1
  generalize hs1 : ({ s with toks := s.toks + 1 } : Shared) = s1
  intro I1
  rw [makeFunction_eq]
  simp only [List.zip_nil_right, List.filterMap_nil, List.isEmpty_nil, List.isEmpty_cons, if_true, pure_bind, Bool.false_eq_true, if_false]
  refine wpAny_bind (wpAny_newTextTuple ?_)
  -- the tuple of the defaults
  let g : Heap := s1.heap.push (PySem.W.kdv_tup [v0])
  show wpAny _ _ (makeTail "<lambda>" (lamQ X) params (.expr body) scope X.env (.ref s1.heap.objs.size) .none none pos pos.line) Q E { s1 with heap := g }
  have gt : g.get? s1.heap.objs.size = some (PySem.W.kdv_tup [v0]) := Heap.get?_push_size _ rfl
  have gk : ∀ b o, s1.heap.get? b = some o → g.get? b = some o := fun b o e => Heap.get?_push_of_some _ e
  have gz : g.objs.size = s1.heap.objs.size + 1 := Heap.size_push ..
  have I2 : Inv X pins σ H { s1 with heap := g } := I1.kept gk
  have hTn : H s1.heap.objs.size = none := I1.hok.fresh (Nat.le_refl _)
  have off : ∀ b, s1.heap.objs.size ≤ b → b ∉ frs X.stack := fun b hb m => by
    rcases List.mem_cons.mp (I1.stkSub _ m) with e | e
    · exact Nat.not_le_of_lt I1.lt (e ▸ hb)
    · exact I1.nofs hb e
  obtain ⟨ps, hP, ok3, known⟩ := hT _ inT
  have hP2 : g.get? P = some { cls := .none, data := .fields ps } := I2.hok P _ hP
  have Plt : P < s1.heap.objs.size := Heap.lt_size (I1.hok P _ hP)
  have bP : g.BuiltinsAt X.mg P := TB.bm.keeps I2.bk
  cases hc : codeAmong pos ps.toList with
  | some cv =>
    obtain ⟨c', rfl, hco⟩ := known pos cv hc
    refine PySem.W.kdv_makeTailHit (mg := X.mg) (c := c) (P := P) (ps := ps) (closure_ok hfree) I2.ok.glob (I2.mod.glob.keeps I2.bk) hcode (TB.code.keeps I2.bk) hP2 ok3 hc bP fun ctv doc h' tk kp sz => ?_
    have kp2 : ∀ b o, g.get? b = some o → (h'.push (lamO X params body scope s1.heap.objs.size doc ((X.mg "__name__").getD .none) ctv c')).get? b = some o := fun b o e => Heap.get?_push_of_some _ (kp b o e)
    have le : s1.heap.objs.size ≤ h'.objs.size := Nat.le_trans (by rw [gz]; exact Nat.le_succ _) sz
    exact h h'.objs.size c' s1.heap.objs.size doc _ ctv v0 H _ (I2.kept (t' := tk) kp2) (ExtN.refl H) hT (Heap.get?_push_size _ rfl) (I1.hok.fresh le) (off _ le) (kp2 _ _ gt) hTn (off _ (Nat.le_refl _)) hco
  | none =>
    refine PySem.W.kdv_makeTail (mg := X.mg) (c := c) (P := P) (ps := ps) (closure_ok hfree) I2.ok.glob (I2.mod.glob.keeps I2.bk) hcode (TB.code.keeps I2.bk) hP2 ok3 hc TB.gP bP fun c' ctv doc h' tk ext ge lt rec tab => ?_
    obtain ⟨c2, oc, vs, t, e2, hoc, hdc, hvc⟩ := rec
    cases e2
    let h2 : Heap := h'.push (lamO X params body scope s1.heap.objs.size doc ((X.mg "__name__").getD .none) ctv c')
    have kp2 : ∀ b o, b ≠ P → g.get? b = some o → h2.get? b = some o := fun b o n e => Heap.get?_push_of_some _ (ext b o n e)
    have nC : H c' = none := I2.hok.fresh ge
    have Pc : P ≠ c' := ne_of_none hP nC
    have le : s1.heap.objs.size ≤ h'.objs.size := Nat.le_trans (by rw [gz] at ge; exact Nat.le_of_succ_le ge) (Nat.le_of_lt lt)
    have I3 := inv_table (t' := tk) (q := lamQ X) (more := #[rawInt pos.line, rawInt pos.col, .ref c']) (h' := h2) I2 hP kp2 (Heap.get?_push_of_some _ tab) ge ⟨oc, vs, t, Heap.get?_push_of_some _ hoc, hdc, hvc⟩
    have ext2 : ExtN H (upd (upd H P (.tbl (ps ++ #[rawInt pos.line, rawInt pos.col, .ref c']))) c' (CodeO c' (lamQ X))) := fun b o e n => by
      have bc : b ≠ c' := ne_of_none e nC
      have bp : b ≠ P := by
        rintro rfl
        exact n ps (Option.some.inj (e.symm.trans hP))
      rw [upd_ne bc, upd_ne bp, e]
    have ls : (ps ++ #[rawInt pos.line, rawInt pos.col, .ref c']).toList = ps.toList ++ [rawInt pos.line, rawInt pos.col, .ref c'] := by simp
    refine h h'.objs.size c' s1.heap.objs.size doc _ ctv v0 _ _ I3 ext2 (fun p hp => ?_) (Heap.get?_push_size _ rfl) ?_ (off _ le) (kp2 _ _ (Nat.ne_of_gt Plt) gt) ?_ (off _ (Nat.le_refl _)) upd_same
    · by_cases e : p.1 = P
      · rw [uni p hp e, e]
        refine ⟨_, by rw [upd_ne Pc, upd_same], by rw [ls]; exact PySem.TriplesOk_snoc _ _ _ _ ok3, fun p' cv hcv => ?_⟩
        rw [ls] at hcv
        rcases among_app _ ok3 hcv with q | q
        · obtain ⟨c0, q1, q2⟩ := known p' cv q
          exact ⟨c0, q1, ext2 _ _ q2 codeO_ne⟩
        · exact ⟨c', q, upd_same⟩
      · obtain ⟨ps', a1, a2, a3⟩ := hT p hp
        refine ⟨ps', by rw [upd_ne (ne_of_none a1 nC), upd_ne e, a1], a2, fun p' cv hcv => ?_⟩
        obtain ⟨c0, q1, q2⟩ := a3 p' cv hcv
        exact ⟨c0, q1, ext2 _ _ q2 codeO_ne⟩
    · have n1 : h'.objs.size ≠ c' := Nat.ne_of_gt lt
      have n2 : h'.objs.size ≠ P := Nat.ne_of_gt (Nat.lt_of_lt_of_le Plt le)
      rw [upd_ne n1, upd_ne n2, I1.hok.fresh le]
    · have n1 : s1.heap.objs.size ≠ c' := Nat.ne_of_lt (by rw [gz] at ge; exact ge)
      rw [upd_ne n1, upd_ne (Nat.ne_of_gt Plt), hTn]
/-- the lambda's body is entered: its parameter is no name that is followed -/
theorem lam_enter {A : Around} {outer : List Env} {E : XK} {scope : Scope} {a : Str} {f c' : Addr} {h₁ : Heap} {tk : Nat} {m : Str → Option Value} (I : Inv X pins σ H s) (L : LamD X.N a X.env.scope scope) (e0 : Env0 X.prog X.w X.K X.mg X.base A outer s1 HZ) (hd : A.handled = none)
    (un : Un (frs X.stack) [] H HZ s.heap s1.heap) (ns : h₁.Ns s1.heap.objs.size m) (kp : ∀ b o, s1.heap.get? b = some o → h₁.get? b = some o) : Inv (lamCx X A outer s1 HZ E scope f c') [] σ HZ { s1 with heap := h₁, toks := tk } := by
  have caught := L.has I.ok
  -- what the lambda holds is what the def around holds
  have same : ∀ {y c}, (lamClo X scope).lookup y = some c → X.env.cells.lookup y = some c := fun {y c} e => by
    rcases cloFrom_mem (PySem.mem_of_lookup e) with q | ⟨q1, q2⟩
    · exact nomatch q
    · obtain ⟨c1, hc⟩ := caught _ q1 rfl
      have hc : X.env.cells.lookup y = some c1 := hc
      rw [hc, q2, hc]
      rfl
  have found : ∀ {y}, scope.names.lookup y = some .free → ∃ c, (lamClo X scope).lookup y = some c := fun hl => mem_lookup (cloFrom_has (cells := X.env.cells) (acc := []) (PySem.mem_of_lookup hl))
  have stays : ∀ {c : Addr} {v : Option Value}, H c = none → s.heap.IsCell c v → h₁.IsCell c v := fun {c v} n ⟨o, ho, hv⟩ => by
    obtain ⟨sl, q⟩ := un.any ho n (by simp)
    exact ⟨_, kp _ _ q, hv⟩
  have none_ : ∀ b : Addr, b ∉ (lamCx X A outer s1 HZ E scope f c').ex := fun b => List.not_mem_nil
  have ok : (lamCx X A outer s1 HZ E scope f c').Ok := {
    mod := e0.mod
    kind := L.kind
    glob := rfl
    blt := rfl
    above := Nat.le_refl _
    inj := fun y z c q1 q2 => I.ok.inj y z c (same q1) (same q2)
    has := fun y q => q.elim (fun q => absurd rfl (L.own _ (PySem.mem_of_lookup q)).1) fun q => found q
    cab := fun y c q => nomatch (show false = true from q)
    hd := fun _ => hd
    frames := Around.frames_deeper e0.frames
    stk := .inr ⟨rfl, rfl⟩
    exf := fun b q => absurd q (none_ b)
    bs := e0.bs
    bsz := e0.bsz
    noex := fun b _ _ => none_ b
    exfs := fun b q => absurd q (none_ b)
    funs := e0.funs
    frf := e0.frf }
  refine { ok := ok, os := rfl, bare := e0.bare, base := Un.kept kp, loc := ⟨m, ns, fun i y v q1 q2 q3 => ?_⟩, cell := fun y c q => ?_, free := e0.hok.fresh (Nat.le_refl _), freeC := fun y c q => ?_, pin := fun q hq => absurd hq List.not_mem_nil, hok := e0.hok.kept kp, len := I.len }
  · rcases (show Vis scope y from q3) with k | k | k
    · exact absurd (List.mem_of_getElem? q1) ((L.own _ (PySem.mem_of_lookup k)).2 rfl)
    · exact absurd rfl (L.own _ (PySem.mem_of_lookup k)).1
    · obtain ⟨_, _, hl⟩ := I.loc
      have cf := L.free _ (PySem.mem_of_lookup k) rfl
      obtain ⟨u, r, q⟩ := hl i y v q1 q2 (cf.elim (fun z => .inr (.inl z)) fun z => .inr (.inr z))
      obtain ⟨c2, h2⟩ := found k
      refine ⟨u, r, .inr ⟨.inr k, c2, h2, ?_⟩⟩
      rcases q with ⟨z, _⟩ | ⟨_, c3, z, hv⟩
      · rcases cf with q | q
        · exact nomatch (show some NameKind.local = some NameKind.cell from z.symm.trans q)
        · exact nomatch (show some NameKind.local = some NameKind.free from z.symm.trans q)
      · cases (same h2).symm.trans z
        exact stays (I.freeC y _ (same h2)) hv
  · obtain ⟨v, q1⟩ := I.cell y c (same q)
    exact ⟨v, stays (I.freeC y c (same q)) q1⟩
  · obtain ⟨v, o, ho, _⟩ := I.cell y c (same q)
    exact un.free c o ho (I.freeC y c (same q)) (by simp)
/-- x(), in the def that got the lambda -/
theorem lam_act {CXg : CXT} {Eg : XK} {Ng : List Str} {qg : Str} {sg : Scope} {g f c' t : Addr} {cdg doc pm ctv v0 : Value} {params : Arguments} {body : Expr} {scope : Scope} {k i : Nat} {a x : Str} {pn : List (Addr × Obj)} {xe : Value → Shared → Prop} {W : WX} {E : XK} {tb : TE} {p1 p2 : Pos}
    (I : Inv X pins σ H s) (L : LamD X.N a X.env.scope scope) (hf : s.heap.get? f = some (lamO X params body scope t doc pm ctv c')) (fn : H f = none) (ff : f ∉ frs X.stack) (ht : s.heap.get? t = some (PySem.W.kdv_tup [v0])) (tn : H t = none) (tf : t ∉ frs X.stack)
    (binds : ∃ kk, bindArgs (PySem.W.kdv_fn "<lambda>" (lamQ X) params (.expr body) scope (lamClo X scope) (.ref t) doc pm (.ref c') ctv) ⟨[], []⟩ = seqItems? (.ref t) >>= kk ∧ ∀ v, kk (some #[v]) = pure [(a, v)]) (tk : Takes ((cxOf CXg X.prog X.w X.K X.mg X.base Ng qg sg g cdg X.A X.stack s H Eg).tr pn xe) W)
    (hW : ∀ cls d σ' H', E cls d H' → W cls d σ' H') (hr : Room (k + 1) (X.A.deeper (envOfC qg sg s.heap.objs.size g cdg))) (hbody : ∀ (A : Around) (outer : List Env) (s : Shared) (H : Hp), Room k (A.deeper (lamEnv X scope s.heap.objs.size f c')) → PE (lamCx X A outer s H E scope f c') body tb)
    (hN : Ng[i]? = some x) (hv : Vis sg x) (hd : (x == ("__debug__" : Str)) = false := by decide) (hcd : (x == ("__classdict__" : Str)) = false := by decide) :
    PE ((cxOf CXg X.prog X.w X.K X.mg X.base Ng qg sg g cdg X.A X.stack s H Eg).tr pn xe) (.Call (.Name x p1) [] [] p2) (fun σZ HZ Q => σZ[i]? = some (some (.ref f)) ∧ HZ c' = some (CodeO c' (lamQ X)) ∧ tb σ HZ Q) := by
  refine ⟨fun pinsZ sZ σZ HZ Q IZ ⟨hs, hc, hb⟩ => wpAny_Call_Name_kw (thn ((pe_var (pos := p1) (i := i) hN hv hd hcd).run pinsZ sZ σZ HZ (fun v H1 => v = .ref f ∧ H1 = HZ) IZ ⟨.ref f, hs, rfl, rfl⟩) fun u s1 ⟨v, H1, I1, r1, ev, eH⟩ => ?_)⟩
  subst ev eH
  cases (show u = Value.ref f from r1)
  have keep : ∀ b o, s.heap.get? b = some o → H b = none → b ∉ frs X.stack → s1.heap.get? b = some o := fun b o e n q => I1.base.keep b o e n q (fun z => nomatch (show b ∈ ([] : List Addr) from z))
  have f1 := keep _ _ hf fn ff
  have t1 := keep _ _ ht tn tf
  refine PySem.W.callWith_F0 ⟨_, _, _, _, f1⟩ ?_
  obtain ⟨⟨oc, vs, tq, hoc, hdc, hvc⟩, _, _⟩ := I1.hok c' _ hc
  have un : Un (frs X.stack) [] H H1 s.heap s1.heap := I1.base
  have run : codeAny (model X.prog X.w) (X.A.deeper (envOfC qg sg s.heap.objs.size g cdg)) (.call (.ref f) ⟨[], []⟩) (CR (L2.CX X.prog X.w) (envOfC qg sg s.heap.objs.size g cdg :: X.stack) X.prog X.w H1 s1 Q E) s1 := by
    refine PySem.W.kla_callFunE hr.depth f1 rfl L.co L.gen rfl ⟨c', oc, vs, tq, rfl, hoc, hdc, hvc⟩ ?_
    obtain ⟨kk, b1, b2⟩ := binds
    refine BindsTo.of_defaults (T := t) rfl t1 rfl b1 (b2 v0) _ _ _ _ ?_
    refine wpAny_newFunctionEnv (fun y hy => (L.own y hy).1) (fun y hy => by rw [List.mem_singleton.mp hy]; exact L.par) (fun h₁ ns sb => ⟨I1.nolimit.fresh _ sb, ?_⟩) L.kind
    have kp : ∀ b o, s1.heap.get? b = some o → h₁.get? b = some o := fun b o e => sb.extBut b o (Nat.ne_of_lt (Heap.lt_size e)) (Heap.get?_push_of_some _ e)
    have J := lam_enter (X := X) (A := X.A.deeper (envOfC qg sg s.heap.objs.size g cdg)) (outer := envOfC qg sg s.heap.objs.size g cdg :: X.stack) (E := E) (f := f) (c' := c') (tk := s1.toks + 1) I L I1.env0 hr.hd un ns kp
    refine PySem.W.kla_codeExpr (wpAny_mono ((hbody _ _ s1 H1 (hr.deeper _)).run [] _ _ H1 Q J hb) (fun v s' ⟨w', H', J', rv, q⟩ => ⟨w', H', J'.os, J'.bare, J'.base, J'.hok, rv, q⟩) fun e s' q => q)
  have pass := passes_call (X := (cxOf CXg X.prog X.w X.K X.mg X.base Ng qg sg g cdg X.A X.stack s H Eg).tr pn xe) tk hW
  refine wpAny_call (codeAny_mono run fun r s' q => ?_)
  match r, q with
  | .error e, q => exact pass pinsZ σZ H1 s1 e s' I1 q
  | .ok (.ret u), q => exact I1.after q
/-- x(lambda a=0: body), x a def that calls what it gets -/
theorem pe_lamD {T : List (Addr × Str)} {TT : (XK → Hp → VK → Prop) → Hp → VK → Prop} {x a b : Str} {g c P : Addr} {k : Nat} {pg : Arguments} {bg : List Stmt} {sg : Scope} {dV kV doc pm cdv ct oc : Value} {an od : Option Addr} {osl : Array (Option Value)} {Ng : List Str} {params : Arguments} {body : Expr} {scope : Scope}
    {t : XK → TE} {i : Int} {j : Nat} {p0 p lpos pos : Pos} (hg : Gl X x) (hm : X.mg x = some (.ref g)) (hk : PySem.W.keepIn X.K (.ref g) = true) (lk : X.K.lookup g = some ⟨oc, od, .func (PySem.W.fnOf x x pg bg sg dV kV doc pm an cdv ct), osl⟩) (hcg : PySem.W.codeIn X.K cdv x = true)
    (hb : L2.Binds X.K (PySem.W.fnOf x x pg bg sg dV kV doc pm an cdv ct) [b] []) (Sg : FnScope Ng [b] sg) (hNg : Ng[0]? = some b) (hvb : Vis sg b) (hG : GivesTo X Ng x sg g cdv bg b (lamQ X) TT) (TB : TabB X.base X.mg c P) (hcode : X.env.code = .ref c) (inT : (P, lamQ X) ∈ T) (uni : ∀ p ∈ T, p.1 = P → p.2 = lamQ X)
    (hr : Room (k + 2) X.A) (L : LamD X.N a X.env.scope scope) (hd : params.defaults = [.Constant (.int i) j p0]) (hkd : params.kw_defaults = [])
    (binds : ∀ (q : Str) (cl : List (Str × Addr)) (t : Addr) (doc pm cv ctv : Value), ∃ kk, bindArgs (PySem.W.kdv_fn "<lambda>" q params (.expr body) scope cl (.ref t) doc pm cv ctv) ⟨[], []⟩ = seqItems? (.ref t) >>= kk ∧ ∀ v, kk (some #[v]) = pure [(a, v)])
    (hbody : ∀ (A : Around) (outer : List Env) (s : Shared) (H : Hp) (E : XK) (f c' : Addr), Room k (A.deeper (lamEnv X scope s.heap.objs.size f c')) → PE (lamCx X A outer s H E scope f c') body (t E))
    (d1 : (x == ("__debug__" : Str)) = false := by decide) (d2 : (b == ("__debug__" : Str)) = false := by decide) (d3 : (b == ("__classdict__" : Str)) = false := by decide) : PE X (.Call (.Name x p) [.Lambda params body scope lpos] [] pos) (tLam T TT t) := by
  refine ⟨fun pins s σ H Q I ⟨hT, h⟩ => wpAny_Call_Name_kw (ld_glob I hg hm ?_ d1)⟩
  refine PySem.W.callWith_K (h₀ := X.base) I.ok.mod.kin hk ?_ (by rfl) (by rfl)
  show wpAny _ _ (spliced ((false, eval (.Lambda params body scope lpos) X.env) :: backTo pos (starEach [] X.env))) _ _ s
  refine Calls.spliced_cons (lam_made I TB hcode inT uni hT hd hkd (L.has I.ok) fun f c' tt doc' pm' ctv v0 H1 s' I1 eN T1 hf hfn hff ht htn htf hco => Calls.spliced_nil ⟨I1.kIn, ?_⟩)
  have run : codeAny (model X.prog X.w) X.A (.call (.ref g) ⟨[.ref f], []⟩) (CR C8.CX0 X.stack X.prog X.w H1 s' Q C8.E0) s' :=
    run_ofS (N := Ng) (ps := [b]) (us := [.ref f]) (vs := [.ref f]) lk hcg Sg hr I1.env0 (hb s' [.ref f] I1.kIn rfl) (.cons rfl .nil) rfl fun hr' => by
      obtain ⟨t', ht', hq'⟩ := hG f c' s' H1 Q (fun E H' Q' => t E σ H' Q') (fun W pn xe E p1 p2 tk hW => lam_act (i := 0) I1 L hf hfn hff ht htn htf (binds _ _ _ _ _ _ _) tk hW hr' (fun A outer s H hr2 => hbody A outer s H E f c' hr2) hNg hvb d2 d3) hco (h H1 eN T1)
      exact ⟨t', ht'.nox, hq'⟩
  refine wpAny_call (codeAny_mono run fun r s2 q => ?_)
  match r, q with
  | .error e, q => exact (show False from q).elim
  | .ok (.ret u), q => exact I1.after q
/-! ### told: a try with words -/
/-- what told makes of the lambda's reading: its word, or the empty text -/
def TWord (K : PySem.W.Frag) (l : List (Value × Str)) : (XK → Hp → VK → Prop) → Hp → VK → Prop := fun tl H Q =>
  tl (fun cls d H' => wRet K { nx := fun _ H' => Q (.str "") H', rt := Q } l cls d [] H') H fun _ H' => Q (.str "") H'
theorem wRet_slots {K : PySem.W.Frag} {D D' : Ends} (e : D.rt = D'.rt) : ∀ {l : List (Value × Str)} {cls : Value} {d : Option Addr} {σ σ' : L2.St} {H : Hp}, wRet K D l cls d σ H → wRet K D' l cls d σ' H
  | [], _, _, _, _, _, h => h.elim
  | (c, z) :: l, _, _, _, _, _, ⟨b, h1, h2, h3⟩ => ⟨b, h1, fun q => e ▸ h2 q, fun q => wRet_slots e (h3 q)⟩
theorem told_words {Ng : List Str} {x a e q : Str} {sg : Scope} {g : Addr} {cdg : Value} {j i : Nat} {h₀ : ExceptHandler} {hds : List ExceptHandler} {l : List (Value × Str)} {p1 p2 p3 p4 p5 p6 : Pos} (hN : Ng.Nodup) (hi : Ng[i]? = some e) (hl : sg.names.lookup e = some .local)
    (hh : ∀ (f : Addr) (s : Shared) (H : Hp), Rets (cxOf C8.CX0 X.prog X.w X.K X.mg X.base Ng x sg g cdg X.A X.stack s H C8.E0).nox e (h₀ :: hds) l) (h0 : ∀ f : Addr, (L2.start Ng [V.ref f])[0]? = some (some (V.ref f))) :
    GivesTo X Ng x sg g cdg [.Try [.Expr (.Call (.Name a p1) [] [] p2) p3] (h₀ :: hds) [] [] p4, .Return (some (.Constant (.str "") j p5)) p6] a q (TWord X.K l) := by
  intro f c' s H Q tl act hc h
  refine ⟨_, pss_cons (ps_try_ret (X := (cxOf C8.CX0 X.prog X.w X.K X.mg X.base Ng x sg g cdg X.A X.stack s H C8.E0).nox) (n := e) (i := i)
      (tb := fun W D σ H => ∃ Ech : XK, (∀ cls d σ' H', Ech cls d H' → W cls d σ' H') ∧ σ[0]? = some (some (.ref f)) ∧ H c' = some (CodeO c' q) ∧ tl Ech H fun _ H' => D.nx σ H')
      rfl rfl hN hi hl (fun W pn xe tk _ => ?_) (hh f s H)) (pss_one (ps_ret pe_str)), ?_⟩
  · refine ⟨fun pins s' σ H' D I ⟨Ech, hW, h1, h2, h3⟩ => ?_⟩
    have hq := pss_one (ps_expr (pos := p3) (act W pn xe Ech p1 p2 tk hW))
    exact hq.run pins s' σ H' D I ⟨h1, h2, h3⟩
  · exact ⟨_, fun cls d σ' H' w => wRet_slots rfl w, h0 f, hc, h⟩
end
end KS
set_option Elab.async false
set_option linter.all false
set_option maxRecDepth 100000
set_option maxHeartbeats 8000000
set_option pp.maxSteps 400
/-! The law's told, called with a lambda; in for tuples. -/
namespace KS
open PySem PySem.Spec PyProof.Rows L2
open LamX
section
variable {X : Cx}
def rInTup (K : PySem.W.Frag) : R2 := fun x y H Q => ∃ d ds, Dp K H x d ∧ Dp K H y (.tuple ds) ∧ SeqAt.shaped d = true ∧ SeqAt.shaped (.tuple ds) = true ∧ Q (.bl (ds.any fun z => PyData.eqv z d)) H
theorem op_inTup (hu : X.A.units + 65 < cLine) : OpR X (compareOp .In) (rInTup X.K) := fun pins s σ H x y v u Q I rx ry ⟨d, ds, hd, he, sd, se, q⟩ => by
  obtain ⟨_, r1⟩ := Dp.reads I d x v hd rx
  obtain ⟨_, r2⟩ := Dp.reads I (.tuple ds) y u he ry
  exact SeqAt.in_tuple_reads r2 r1 (SeqAt.canLay_of_shaped se) (SeqAt.canLay_of_shaped sd) (room_in_shaped sd hu) ⟨.bl _, H, I, rfl, q⟩
theorem k_op_inTup {K : PySem.W.Frag} (e : X.K = K) (hu : X.A.units + 65 < cLine) : OpR X (compareOp .In) (rInTup K) := e ▸ op_inTup hu
/-- a statement, then the rest: what holds between them is told once -/
theorem pss_join {st : Stmt} {rest : List Stmt} {t u : TS} (h1 : PS X st t) (h2 : PSs X rest u) : PSs X (st :: rest) fun D σ H => ∃ Pj : L2.St → Hp → Prop, t { D with nx := Pj } σ H ∧ ∀ σ' H', Pj σ' H' → u D σ' H' :=
  ⟨fun pins s σ H D I ⟨Pj, a, b⟩ => wpAny_execs_cons (thn (h1.run pins s σ H { D with nx := Pj } I a) fun f s1 q => by
    match f, q with
    | .next, ⟨σ', H', I', q⟩ => exact h2.run pins s1 σ' H' D I' (b σ' H' q)
    | .ret _, q => exact q
    | .brk, q => exact q
    | .cont, q => exact q)⟩
/-- told's words -/
def words (K : PySem.W.Frag) : List (Value × Str) := [(.ref (He.ga K "BadItem"), "item"), (.ref (He.ga K "BadName"), "name"), (.ref (He.ga K "BadNumber"), "number"), (.ref (He.ga K "BadOrder"), "order")]
theorem sc_told : FnScope ["_law_work", "e"] ["_law_work"] (defScope (tp 64)) := ⟨rfl, rfl, rfl, by decide +kernel, rfl, by decide +kernel, by decide +kernel⟩
theorem told_gives (T : Tx X.K X.mg) (g : Addr) (cdg : Value) (q : Str) : GivesTo X ["_law_work", "e"] "_law_told" (defScope (tp 64)) g cdg (defBody (tp 64)) "_law_work" q (TWord X.K (words X.K)) := by
  have nm : ∀ x ∈ excs, ∀ (f : Addr) (s : Shared) (H : Hp), Gl (cxOf C8.CX0 X.prog X.w X.K X.mg X.base ["_law_work", "e"] "_law_told" (defScope (tp 64)) g cdg X.A X.stack s H C8.E0).nox x → (x == ("__debug__" : Str)) = false →
      Names (cxOf C8.CX0 X.prog X.w X.K X.mg X.base ["_law_work", "e"] "_law_told" (defScope (tp 64)) g cdg X.A X.stack s H C8.E0).nox x (.ref (He.ga X.K x)) := fun x hx f s H g h => ⟨g, h, .inl (T.exc x hx).1⟩
  exact told_words (i := 1) (l := words X.K) sc_told.nd rfl (by decide +kernel)
    (fun f s H => .cons (nm "BadItem" (by decide +kernel) f s H rfl (by decide)) (.cons (nm "BadName" (by decide +kernel) f s H rfl (by decide)) (.cons (nm "BadNumber" (by decide +kernel) f s H rfl (by decide)) (.cons (nm "BadOrder" (by decide +kernel) f s H rfl (by decide)) .nil)))) fun f => rfl
/-- told(lambda: body) -/
theorem pe_told {TT : List (Addr × Str)} {c P : Addr} {k : Nat} {params : Arguments} {body : Expr} {scope : Scope} {t : XK → TE} {p lpos pos : Pos} (T : Tx X.K X.mg) (TB : TabB X.base X.mg c P) (hcode : X.env.code = .ref c) (inT : (P, lamQ X) ∈ TT) (uni : ∀ p ∈ TT, p.1 = P → p.2 = lamQ X) (hr : Room (k + 2) X.A) (L : LamS X.env.scope scope)
    (hbody : ∀ (A : Around) (outer : List Env) (s : Shared) (H : Hp) (E : XK) (f c' : Addr), Room k (A.deeper (lamEnv X scope s.heap.objs.size f c')) → PE (lamCx X A outer s H E scope f c') body (t E))
    (hdef : defaultsOf params X.env = ([], []) := by rfl) (hbind : ∀ (q : Str) (cl : List (Str × Addr)) (pm cv ctv : Value), bindArgs (PySem.W.kla_fn "<lambda>" q params body scope cl pm cv ctv) ⟨[], []⟩ = pure [] := by intros; rfl) (hg : Gl X "_law_told" := by rfl) :
    PE X (.Call (.Name "_law_told" p) [.Lambda params body scope lpos] [] pos) (tLam TT (TWord X.K (words X.K)) t) := by
  obtain ⟨fd, F, hm⟩ := T.fn ("_law_told", 64) (by decide +kernel)
  have hb := F.bindsN (ps := ["_law_work"]) (fun _ _ _ _ _ _ us hl => match us, hl with | [_], _ => rfl)
  have hk := F.kp
  obtain ⟨oc, od, dV, kV, doc, pm, an, cdv, ct, osl, rfl, lk, hcd, _, _⟩ := F.ex
  exact pe_lamcall (Ng := ["_law_work", "e"]) hg hm hk lk hcd hb sc_told rfl (.inl (by decide +kernel)) (told_gives T _ _ _) TB hcode inT uni hr L hdef hbind hbody
/-- told(lambda a=0: body) -/
theorem pe_toldD {TT : List (Addr × Str)} {a : Str} {c P : Addr} {k : Nat} {params : Arguments} {body : Expr} {scope : Scope} {t : XK → TE} {i : Int} {j : Nat} {p0 p lpos pos : Pos} (T : Tx X.K X.mg) (TB : TabB X.base X.mg c P) (hcode : X.env.code = .ref c) (inT : (P, lamQ X) ∈ TT) (uni : ∀ p ∈ TT, p.1 = P → p.2 = lamQ X) (hr : Room (k + 2) X.A)
    (L : LamD X.N a X.env.scope scope) (hbody : ∀ (A : Around) (outer : List Env) (s : Shared) (H : Hp) (E : XK) (f c' : Addr), Room k (A.deeper (lamEnv X scope s.heap.objs.size f c')) → PE (lamCx X A outer s H E scope f c') body (t E))
    (hd : params.defaults = [.Constant (.int i) j p0] := by rfl) (hkd : params.kw_defaults = [] := by rfl)
    (binds : ∀ (q : Str) (cl : List (Str × Addr)) (t : Addr) (doc pm cv ctv : Value), ∃ kk, bindArgs (PySem.W.kdv_fn "<lambda>" q params (.expr body) scope cl (.ref t) doc pm cv ctv) ⟨[], []⟩ = seqItems? (.ref t) >>= kk ∧ ∀ v, kk (some #[v]) = pure [(a, v)] := by
      intros
      exact ⟨_, rfl, fun _ => rfl⟩)
    (hg : Gl X "_law_told" := by rfl) : PE X (.Call (.Name "_law_told" p) [.Lambda params body scope lpos] [] pos) (tLam TT (TWord X.K (words X.K)) t) := by
  obtain ⟨fd, F, hm⟩ := T.fn ("_law_told", 64) (by decide +kernel)
  have hb := F.bindsN (ps := ["_law_work"]) (fun _ _ _ _ _ _ us hl => match us, hl with | [_], _ => rfl)
  have hk := F.kp
  obtain ⟨oc, od, dV, kV, doc, pm, an, cdv, ct, osl, rfl, lk, hcd, _, _⟩ := F.ex
  exact pe_lamD (Ng := ["_law_work", "e"]) hg hm hk lk hcd hb sc_told rfl (.inl (by decide +kernel)) (told_gives T _ _ _) TB hcode inT uni hr L hd hkd binds hbody
end
end KS
set_option Elab.async false
set_option linter.all false
set_option maxRecDepth 100000
set_option maxHeartbeats 8000000
set_option pp.maxSteps 400
/-! The law's own text: its derivation. -/
namespace KS
open PySem PySem.Spec PyProof.Rows L2
open LamX
/-- all promises that the law leans on -/
structure LD (P : Program) (w : World) (K : PySem.W.Frag) (mg : Str → Option Value) (base : Heap) : Prop where
  law_taken : Ok P w K mg base CX0 1 "_law_taken" ["_law_row", "_law_many"] (spTk K)
  law_pick : Ok P w K mg base CX0 2 "_law_pick" ["_law_row", "_law_things"] (spPk K)
  law_is : Ok P w K mg base CX0 1 "_law_is" ["_law_found", "_law_due"] spIs
  law_catalog : Ok P w K mg base CX0 3 "_law_catalog" ["_law_row"] (spLCat K)
  law_order : Ok P w K mg base CX0 3 "_law_order" ["_law_row", "_law_catalog_here", "_law_name"] (spLOrd K)
  law_wishes : Ok P w K mg base CX0 1 "_law_wishes" ["_law_orders"] (spWishesOf K)
  law_over : Ok P w K mg base CX0 2 "_law_over" ["_law_catalog_here", "_law_wishes_here"] (spOver K)
  law_able : Ok P w K mg base CX0 3 "_law_able" ["_law_catalog_here", "_law_orders"] (spAble K)
  law_more : Ok P w K mg base CX0 3 "_law_more" ["_law_catalog_here", "_law_orders", "_law_items", "_law_region", "_law_by"] (spMore K)
  law_plan : Ok P w K mg base CX0 2 "_law_plan" ["_law_catalog_here", "_law_orders", "_law_sends"] (spPlan K)
  law_alike : Ok P w K mg base CX0 7 "_law_alike" ["_law_found", "_law_due"] (spAlike K 6)
  Book : OkI P w K mg base 5 "Book" (cB K) ["self", "catalog"] (spBinit K)
  orders : OkP P w K mg base 1 (cB K) "orders" ["self"] (spOrders K)
  refusals : OkP P w K mg base 1 (cB K) "refusals" ["self"] (spRefusals K)
  sends : OkM P w K mg base CX0 6 (cB K) "sends" ["self"] (spSends K)
  ask : OkM P w K mg base (L2.CX P w) 7 (cB K) "ask" ["self", "order"] (spAsk K)
  cancel : OkM P w K mg base (L2.CX P w) 1 (cB K) "cancel" ["self", "name"] (spCancel K)
  most : OkM P w K mg base (L2.CX P w) 7 (cB K) "most" ["self", "items", "region", "by"] (spMost K)
  earliest : OkM P w K mg base (L2.CX P w) 7 (cB K) "earliest" ["self", "items", "region", "count"] (spEarliest K)
  curve : OkM P w K mg base CX0 7 (cB K) "curve" ["self", "items", "region"] (spCurve K)
section
variable {P : Program} {w : World} {K : PySem.W.Frag} {mg : Str → Option Value} {base : Heap}
theorem sc_law : FnScope ["_law_script", "_law_row", "_law_catalog_here", "_law_held", "_law_lost", "_law_turn", "_law_names", "_law_due", "_law_wish", "_law_most", "_law_holding", "_law_lot", "_law_days", "_law_count", "_law_able_here", "_law_more_here", "_law_words", "_law_book", "_law_by", "_law_items", "_law_order_here", "_law_region", "_law_one", "_law_day"] ["_law_script"] (defScope (tp 65)) := ⟨rfl, rfl, rfl, by decide +kernel, rfl, by decide +kernel, by decide +kernel⟩
def lawN : List Str := ["_law_script", "_law_row", "_law_catalog_here", "_law_held", "_law_lost", "_law_turn", "_law_names", "_law_due", "_law_wish", "_law_most", "_law_holding", "_law_lot", "_law_days", "_law_count", "_law_able_here", "_law_more_here", "_law_words", "_law_book", "_law_by", "_law_items", "_law_order_here", "_law_region", "_law_one", "_law_day"]
abbrev lawX (P : Program) (w : World) (K : PySem.W.Frag) (mg : Str → Option Value) (base : Heap) (c : Addr) (A : Around) (outer : List Env) (s : Shared) (H : Hp) (E : XK) : Cx :=
  (cxOf CX0 P w K mg base lawN "law" (defScope (tp 65)) (He.ga K "law") (.ref c) A outer s H E).nox
/-- the tables of the law's code object -/
abbrev lawT (P : Addr) : List (Addr × Str) := [(P, "law.<locals>.<lambda>")]
theorem sc_lawN : FnScope lawN ["_law_script"] (defScope (tp 65)) := sc_law
theorem lawQ {c : Addr} {A : Around} {outer : List Env} {s : Shared} {H : Hp} {E : XK} : lamQ (lawX P w K mg base c A outer s H E) = "law.<locals>.<lambda>" := by
  show ("law" : Str) ++ (".<locals>." : Str) ++ ("<lambda>" : Str) = "law.<locals>.<lambda>"
  decide +kernel
noncomputable def lawD (T : Tx K mg) (D : LD P w K mg base) {c Pc : Addr} (TB : TabB base mg c Pc) (A : Around) (outer : List Env) (s : Shared) (H : Hp) (E : XK) (hr : Room 99 (A.deeper (envOfC "law" (defScope (tp 65)) s.heap.objs.size (He.ga K "law") (.ref c)))) :
    { t : TS // PSs (lawX P w K mg base c A outer s H E) (defBody (tp 65)) t } :=
  have sc := sc_lawN
  ⟨_, pss_cons (ps_set (i := 1) sc.nd rfl (Or.inl rfl) (pe_lst (pa_cons (pv 0) (pa_cons (pe_int) (pa_cons (pe_int) (pa_cons (pe_int) pa_nil))))))
      (pss_cons (ps_set (i := 2) sc.nd rfl (Or.inr rfl) (pe_fn D.law_catalog (hr.mono (by decide)) pass0 (pa_cons (pv 1) pa_nil)))
      (pss_cons (ps_asg (pe_tup (pa_cons (pe_mk D.Book (hr.mono (by decide)) pass0 (pa_cons (pv 2) pa_nil)) (pa_cons (pe_lst pa_nil) (pa_cons (pe_int) pa_nil)))) (k_pg_tup (K := K) (n := 3) rfl rfl (pgs_cons (pg_name (i := 17) sc.nd rfl (Or.inr rfl)) (pgs_cons (pg_name (i := 3) sc.nd rfl (Or.inr rfl)) (pgs_cons (pg_name (i := 4) sc.nd rfl (Or.inl rfl)) pgs_nil)))))
      (pss_cons (ps_for PassesOwn.never rfl (pi_range1 rfl (T.free _ (by decide +kernel)) (pa_cons (pe_fn D.law_taken (hr.mono (by decide)) pass0 (pa_cons (pv 1) (pa_cons (pe_int) pa_nil))) pa_nil)) (pg_name (i := 5) sc.nd rfl (Or.inl rfl))
        (pss_cons (ps_set (i := 20) sc.nd rfl (Or.inr rfl) (pe_fn D.law_order (hr.mono (by decide)) pass0 (pa_cons (pv 1) (pa_cons (pv 2) (pa_cons (pe_fn D.law_pick (hr.mono (by decide)) pass0 (pa_cons (pv 1) (pa_cons (pe_lst (pa_cons (pe_str) (pa_cons (pe_str) (pa_cons (pe_str) (pa_cons (pe_str) pa_nil))))) pa_nil))) pa_nil)))))
        (pss_cons (ps_setLc (i := 6) (own := [("_law_one", 22)]) rfl sc.nd rfl rfl (sw_true rfl rfl rfl (by decide +kernel)) (pi_list (pv 3)) (blkOk_by (own := [("_law_one", 22)]) (N := ["_law_script", "_law_row", "_law_catalog_here", "_law_held", "_law_lost", "_law_turn", "_law_names", "_law_due", "_law_wish", "_law_most", "_law_holding", "_law_lot", "_law_days", "_law_count", "_law_able_here", "_law_more_here", "_law_words", "_law_book", "_law_by", "_law_items", "_law_order_here", "_law_region", "_law_one", "_law_day"]) (sc := defScope (tp 65)) (by decide +kernel)) (fun _ _ _ _ _ => pg_name (i := 22) sc.nd rfl (Or.inl rfl)) (fun _ _ _ _ _ => pts_nil) (fun _ _ _ _ _ => pe_ix (k_ix_tup (K := K) rfl) (pv 22) (pe_int) (fun _ _ => rfl)))
        (pss_join (ps_if (pt_cmpR (k_op_in_seq (K := K) rfl) (pe_ix (k_ix_tup (K := K) rfl) (pv 20) (pe_int) (fun _ _ => rfl)) (pv 6) (by rfl))
          (pss_cons (ps_if (pt_cmpR op_ne (pe_told (TT := lawT Pc) (k := 90) T TB rfl (List.mem_cons_self) (fun p hp _ => by rw [List.mem_singleton.mp hp]; exact lawQ.symm) (hr.mono (by decide)) (lamS_by (sc := defScope (tp 65)) (by decide +kernel)) (fun A outer s H E f c' hr2 => pe_mth D.ask (hr2.mono (by decide)) (passes_call (takes_of rfl rfl rfl rfl) fun _ _ _ _ h => h) (pv 17) (pa_cons (pv 20) pa_nil))) (pe_str) (nomark _))
            (pss_one (ps_ret (pe_bl)))
            (pss_nil))
          (pss_one (ps_if (pt_cmpR op_eq (pe_fn D.law_taken (hr.mono (by decide)) pass0 (pa_cons (pv 1) (pa_cons (pe_int) pa_nil))) (pe_int) (nomark _))
            (pss_cons (ps_expr (pe_mth D.cancel (hr.mono (by decide)) passL (pv 17) (pa_cons (pe_ix (k_ix_tup (K := K) rfl) (pv 20) (pe_int) (fun _ _ => rfl)) pa_nil)))
            (pss_one (ps_set (i := 3) sc.nd rfl (Or.inr rfl) (pe_lc (own := [("_law_one", 22)]) rfl sc.nd (pi_list (pv 3)) (blkOk_by (own := [("_law_one", 22)]) (N := ["_law_script", "_law_row", "_law_catalog_here", "_law_held", "_law_lost", "_law_turn", "_law_names", "_law_due", "_law_wish", "_law_most", "_law_holding", "_law_lot", "_law_days", "_law_count", "_law_able_here", "_law_more_here", "_law_words", "_law_book", "_law_by", "_law_items", "_law_order_here", "_law_region", "_law_one", "_law_day"]) (sc := defScope (tp 65)) (by decide +kernel)) (fun _ _ _ _ _ => pg_name (i := 22) sc.nd rfl (Or.inl rfl)) (fun _ _ _ _ _ => pts_one (pt_cmpR op_ne (pe_ix (k_ix_tup (K := K) rfl) (pv 22) (pe_int) (fun _ _ => rfl)) (pe_ix (k_ix_tup (K := K) rfl) (pv 20) (pe_int) (fun _ _ => rfl)) (nomark _))) (fun _ _ _ _ _ => pv 22)))))
            (pss_nil))))
          (pss_cons (ps_set (i := 7) sc.nd rfl (Or.inl rfl) (pe_fn D.law_able (hr.mono (by decide)) pass0 (pa_cons (pv 2) (pa_cons (pe_op op_cat (pv 3) (pe_lst (pa_cons (pv 20) pa_nil))) pa_nil))))
          (pss_cons (ps_if (pt_not (pt_val (pe_fn D.law_is (hr.mono (by decide)) pass0 (pa_cons (pe_mth D.ask (hr.mono (by decide)) passL (pv 17) (pa_cons (pv 20) pa_nil)) (pa_cons (pv 7) pa_nil)))))
            (pss_one (ps_ret (pe_bl)))
            (pss_nil))
          (pss_one (ps_asg (pe_ifExp (pt_val (pv 7)) (pe_tup (pa_cons (pe_op op_cat (pv 3) (pe_lst (pa_cons (pv 20) pa_nil))) (pa_cons (pv 4) pa_nil))) (pe_tup (pa_cons (pv 3) (pa_cons (pe_op op_add (pv 4) (pe_int)) pa_nil)))) (k_pg_tup (K := K) (n := 2) rfl rfl (pgs_cons (pg_name (i := 3) sc.nd rfl (Or.inr rfl)) (pgs_cons (pg_name (i := 4) sc.nd rfl (Or.inl rfl)) pgs_nil))))))))
        (pss_one (ps_if (PW.pt (pw_or (pt_not (pt_val (pe_fn D.law_alike (hr.mono (by decide)) pass0 (pa_cons (pe_prp D.orders (hr.mono (by decide)) pass0 (pv 17)) (pa_cons (pe_callTy (k_tuple (K := K) rfl) (by rfl) (T.free _ (by decide +kernel)) (by decide +kernel) (pa_cons (pv 3) pa_nil)) pa_nil))))) (pw_or1 (pt_not (pt_val (pe_fn D.law_plan (hr.mono (by decide)) pass0 (pa_cons (pv 2) (pa_cons (pv 3) (pa_cons (pe_mth0 D.sends (hr.mono (by decide)) pass0 (pv 17)) pa_nil)))))))))
          (pss_one (ps_ret (pe_bl)))
          (pss_nil)))))))
      (pss_cons (ps_if (PW.pt (pw_or (pt_cmpR op_ne (pe_callB (k_len (K := K) rfl) (by rfl) (T.free _ (by decide +kernel)) (by decide +kernel) (pa_cons (pe_prp D.refusals (hr.mono (by decide)) pass0 (pv 17)) pa_nil)) (pv 4) (nomark _)) (pw_or1 (pt_cmpR (k_op_neD (K := K) rfl hr.units) (pe_lc (own := [("_law_one", 22)]) rfl sc.nd (pi_list (pe_prp D.refusals (hr.mono (by decide)) pass0 (pv 17))) (blkOk_by (own := [("_law_one", 22)]) (N := ["_law_script", "_law_row", "_law_catalog_here", "_law_held", "_law_lost", "_law_turn", "_law_names", "_law_due", "_law_wish", "_law_most", "_law_holding", "_law_lot", "_law_days", "_law_count", "_law_able_here", "_law_more_here", "_law_words", "_law_book", "_law_by", "_law_items", "_law_order_here", "_law_region", "_law_one", "_law_day"]) (sc := defScope (tp 65)) (by decide +kernel)) (fun _ _ _ _ _ => pg_name (i := 22) sc.nd rfl (Or.inl rfl)) (fun _ _ _ _ _ => pts_one (pt_cmpR op_ne (pe_ix (k_ix_tup (K := K) rfl) (pe_ix (k_ix_tup (K := K) rfl) (pv 22) (pe_int) (fun _ _ => rfl)) (pe_int) (fun _ _ => rfl)) (pe_str) (nomark _))) (fun _ _ _ _ _ => pv 22)) (pe_lst pa_nil) (nomark _)))))
        (pss_one (ps_ret (pe_bl)))
        (pss_nil))
      (pss_cons (ps_set (i := 8) sc.nd rfl (Or.inl rfl) (pe_fn D.law_order (hr.mono (by decide)) pass0 (pa_cons (pv 1) (pa_cons (pv 2) (pa_cons (pe_str) pa_nil)))))
      (pss_cons (ps_asg (pe_tup (pa_cons (pe_ix (k_ix_tup (K := K) rfl) (pe_ix (k_ix_tup (K := K) rfl) (pe_ix (k_ix_tup (K := K) rfl) (pv 8) (pe_int) (fun _ _ => rfl)) (pe_int) (fun _ _ => rfl)) (pe_int) (fun _ _ => rfl)) (pa_cons (pe_ix (k_ix_tup (K := K) rfl) (pv 8) (pe_int) (fun _ _ => rfl)) (pa_cons (pe_ix (k_ix_tup (K := K) rfl) (pv 8) (pe_int) (fun _ _ => rfl)) pa_nil)))) (k_pg_tup (K := K) (n := 3) rfl rfl (pgs_cons (pg_name (i := 19) sc.nd rfl (Or.inr rfl)) (pgs_cons (pg_name (i := 21) sc.nd rfl (Or.inr rfl)) (pgs_cons (pg_name (i := 18) sc.nd rfl (Or.inr rfl)) pgs_nil)))))
      (pss_cons (ps_asg (pe_mth D.most (hr.mono (by decide)) passL (pv 17) (pa_cons (pv 19) (pa_cons (pv 21) (pa_cons (pv 18) pa_nil)))) (k_pg_tup (K := K) (n := 2) rfl rfl (pgs_cons (pg_name (i := 9) sc.nd rfl (Or.inl rfl)) (pgs_cons (pg_name (i := 10) sc.nd rfl (Or.inr rfl)) pgs_nil))))
      (pss_cons (ps_if (PW.pt (pw_or (pt_cmpR op_ne (pv 9) (pe_fn D.law_more (hr.mono (by decide)) pass0 (pa_cons (pv 2) (pa_cons (pv 3) (pa_cons (pv 19) (pa_cons (pv 21) (pa_cons (pv 18) pa_nil)))))) (nomark _)) (pw_or1 (pt_val (pe_callB (k_isi (K := K) rfl) (by rfl) (T.free _ (by decide +kernel)) (by decide +kernel) (pa_cons (pv 9) (pa_cons (pe_bltn (by rfl) (T.free _ (by decide +kernel)) (by decide +kernel) (v := .ty "bool") rfl) pa_nil)))))))
        (pss_one (ps_ret (pe_bl)))
        (pss_nil))
      (pss_cons (ps_setLc (i := 11) (own := [("_law_one", 22)]) rfl sc.nd rfl rfl (sw_true rfl rfl rfl (by decide +kernel)) (pi_list (pe_fn D.law_wishes (hr.mono (by decide)) pass0 (pa_cons (pv 3) pa_nil))) (blkOk_by (own := [("_law_one", 22)]) (N := ["_law_script", "_law_row", "_law_catalog_here", "_law_held", "_law_lost", "_law_turn", "_law_names", "_law_due", "_law_wish", "_law_most", "_law_holding", "_law_lot", "_law_days", "_law_count", "_law_able_here", "_law_more_here", "_law_words", "_law_book", "_law_by", "_law_items", "_law_order_here", "_law_region", "_law_one", "_law_day"]) (sc := defScope (tp 65)) (by decide +kernel)) (fun _ _ _ _ _ => pg_name (i := 22) sc.nd rfl (Or.inl rfl)) (fun _ _ _ _ _ => pts_one (pt_cmpR (k_op_inTup (K := K) rfl (hu65 hr)) (pe_slice (k_sl_tup (K := K) rfl) (pv 22) po_none (po_some (pe_int))) (pv 10) (by rfl))) (fun _ _ _ _ _ => pv 22))
      (pss_cons (ps_if (PW.pt (pw_or (pt_cmpR op_ne (pe_callB (k_len (K := K) rfl) (by rfl) (T.free _ (by decide +kernel)) (by decide +kernel) (pa_cons (pv 11) pa_nil)) (pe_callB (k_len (K := K) rfl) (by rfl) (T.free _ (by decide +kernel)) (by decide +kernel) (pa_cons (pv 10) pa_nil)) (nomark _)) (pw_or1 (pt_cmpR op_ne (pe_op op_sub (pe_int) (pe_fn D.law_over (hr.mono (by decide)) pass0 (pa_cons (pv 2) (pa_cons (pe_op op_cat (pv 11) (pe_lst (pa_cons (pe_tup (pa_cons (pe_str) (pa_cons (pe_int) (pa_cons (pv 19) (pa_cons (pv 21) (pa_cons (pe_int) (pa_cons (pv 18) pa_nil))))))) pa_nil))) pa_nil)))) (pv 9) (nomark _)))))
        (pss_one (ps_ret (pe_bl)))
        (pss_nil))
      (pss_cons (ps_asg (pe_tup (pa_cons (pe_lc (own := [("_law_day", 23)]) rfl sc.nd (pi_range1 rfl (T.free _ (by decide +kernel)) (pa_cons (pe_int) pa_nil)) (blkOk_by (own := [("_law_day", 23)]) (N := ["_law_script", "_law_row", "_law_catalog_here", "_law_held", "_law_lost", "_law_turn", "_law_names", "_law_due", "_law_wish", "_law_most", "_law_holding", "_law_lot", "_law_days", "_law_count", "_law_able_here", "_law_more_here", "_law_words", "_law_book", "_law_by", "_law_items", "_law_order_here", "_law_region", "_law_one", "_law_day"]) (sc := defScope (tp 65)) (by decide +kernel)) (fun _ _ _ _ _ => pg_name (i := 23) sc.nd rfl (Or.inl rfl)) (fun _ _ _ _ _ => pts_nil) (fun _ _ _ _ _ => pe_fn D.law_more (hr.mono (by decide)) pass0 (pa_cons (pv 2) (pa_cons (pv 3) (pa_cons (pv 19) (pa_cons (pv 21) (pa_cons (pv 23) pa_nil))))))) (pa_cons (pe_op op_add (pe_int) (pe_fn D.law_taken (hr.mono (by decide)) pass0 (pa_cons (pv 1) (pa_cons (pe_int) pa_nil)))) pa_nil))) (k_pg_tup (K := K) (n := 2) rfl rfl (pgs_cons (pg_name (i := 12) sc.nd rfl (Or.inr rfl)) (pgs_cons (pg_name (i := 13) sc.nd rfl (Or.inr rfl)) pgs_nil))))
      (pss_cons (ps_setLc (i := 14) (own := [("_law_day", 23)]) rfl sc.nd rfl rfl (sw_true rfl rfl rfl (by decide +kernel)) (pi_range1 rfl (T.free _ (by decide +kernel)) (pa_cons (pe_int) pa_nil)) (blkOk_by (own := [("_law_day", 23)]) (N := ["_law_script", "_law_row", "_law_catalog_here", "_law_held", "_law_lost", "_law_turn", "_law_names", "_law_due", "_law_wish", "_law_most", "_law_holding", "_law_lot", "_law_days", "_law_count", "_law_able_here", "_law_more_here", "_law_words", "_law_book", "_law_by", "_law_items", "_law_order_here", "_law_region", "_law_one", "_law_day"]) (sc := defScope (tp 65)) (by decide +kernel)) (fun _ _ _ _ _ => pg_name (i := 23) sc.nd rfl (Or.inl rfl)) (fun _ _ _ _ _ => pts_one (pt_cmpR op_ge (pe_ix (k_ix_list (K := K) rfl) (pv 12) (pv 23) (fun _ _ => rfl)) (pv 13) (nomark _))) (fun _ _ _ _ _ => pv 23))
      (pss_join (ps_if (pt_cmpR op_ne (pe_mth D.earliest (hr.mono (by decide)) passL (pv 17) (pa_cons (pv 19) (pa_cons (pv 21) (pa_cons (pv 13) pa_nil)))) (pe_ifExp (pt_cmpR (k_op_neD (K := K) rfl hr.units) (pv 14) (pe_lst pa_nil) (nomark _)) (pe_ix (k_ix_list (K := K) rfl) (pv 14) (pe_int) (fun _ _ => rfl)) (pe_non)) (nomark _))
        (pss_one (ps_ret (pe_bl)))
        (pss_nil))
      (pss_cons (ps_setLc (i := 7) (own := [("_law_day", 23)]) rfl sc.nd rfl rfl (sw_true rfl rfl rfl (by decide +kernel)) (pi_range1 rfl (T.free _ (by decide +kernel)) (pa_cons (pe_int) pa_nil)) (blkOk_by (own := [("_law_day", 23)]) (N := ["_law_script", "_law_row", "_law_catalog_here", "_law_held", "_law_lost", "_law_turn", "_law_names", "_law_due", "_law_wish", "_law_most", "_law_holding", "_law_lot", "_law_days", "_law_count", "_law_able_here", "_law_more_here", "_law_words", "_law_book", "_law_by", "_law_items", "_law_order_here", "_law_region", "_law_one", "_law_day"]) (sc := defScope (tp 65)) (by decide +kernel)) (fun _ _ _ _ _ => pg_name (i := 23) sc.nd rfl (Or.inl rfl)) (fun _ _ _ _ _ => pts_one (pt_cmpR op_gt (pe_ix (k_ix_list (K := K) rfl) (pv 12) (pv 23) (fun _ _ => rfl)) (pe_ifExp (pt_cmpR op_gt (pv 23) (pe_int) (nomark _)) (pe_ix (k_ix_list (K := K) rfl) (pv 12) (pe_op op_sub (pv 23) (pe_int)) (fun _ _ => rfl)) (pe_int)) (nomark _))) (fun _ _ _ _ _ => pe_tup (pa_cons (pv 23) (pa_cons (pe_ix (k_ix_list (K := K) rfl) (pv 12) (pv 23) (fun _ _ => rfl)) pa_nil))))
      (pss_cons (ps_if (pt_not (pt_val (pe_fn D.law_alike (hr.mono (by decide)) pass0 (pa_cons (pe_mth D.curve (hr.mono (by decide)) pass0 (pv 17) (pa_cons (pv 19) (pa_cons (pv 21) pa_nil))) (pa_cons (pe_callTy (k_tuple (K := K) rfl) (by rfl) (T.free _ (by decide +kernel)) (by decide +kernel) (pa_cons (pv 7) pa_nil)) pa_nil)))))
        (pss_one (ps_ret (pe_bl)))
        (pss_nil))
      (pss_cons (ps_if (pt_cmpR (k_op_neD (K := K) rfl hr.units) (pe_lc (own := [("_law_day", 23)]) rfl sc.nd (pi_range1 rfl (T.free _ (by decide +kernel)) (pa_cons (pe_int) pa_nil)) (blkOk_by (own := [("_law_day", 23)]) (N := ["_law_script", "_law_row", "_law_catalog_here", "_law_held", "_law_lost", "_law_turn", "_law_names", "_law_due", "_law_wish", "_law_most", "_law_holding", "_law_lot", "_law_days", "_law_count", "_law_able_here", "_law_more_here", "_law_words", "_law_book", "_law_by", "_law_items", "_law_order_here", "_law_region", "_law_one", "_law_day"]) (sc := defScope (tp 65)) (by decide +kernel)) (fun _ _ _ _ _ => pg_name (i := 23) sc.nd rfl (Or.inl rfl)) (fun _ _ _ _ _ => pts_one (pt_cmpR op_gt (pe_ix (k_ix_list (K := K) rfl) (pv 12) (pv 23) (fun _ _ => rfl)) (pe_ix (k_ix_list (K := K) rfl) (pv 12) (pe_op op_add (pv 23) (pe_int)) (fun _ _ => rfl)) (nomark _))) (fun _ _ _ _ _ => pe_int)) (pe_lst pa_nil) (nomark _))
        (pss_one (ps_ret (pe_bl)))
        (pss_nil))
      (pss_join (ps_if (pt_chain op_lt op_lt (pe_int) (pv 9) (pe_int))
        (pss_cons (ps_set (i := 15) sc.nd rfl (Or.inl rfl) (pe_tup (pa_cons (pe_str) (pa_cons (pv 21) (pa_cons (pe_tup (pa_cons (pe_tup (pa_cons (pv 19) (pa_cons (pv 9) pa_nil))) pa_nil)) (pa_cons (pv 18) (pa_cons (pe_int) pa_nil)))))))
        (pss_one (ps_if (PW.pt (pw_or (pt_cmpR op_notBl (pe_mth D.ask (hr.mono (by decide)) passL (pv 17) (pa_cons (pv 15) pa_nil)) (pe_bl) (nomark _)) (pw_or1 (pt_cmpR op_ne (pe_ix (k_ix_tup (K := K) rfl) (pe_mth D.most (hr.mono (by decide)) passL (pv 17) (pa_cons (pv 19) (pa_cons (pv 21) (pa_cons (pv 18) pa_nil)))) (pe_int) (fun _ _ => rfl)) (pe_int) (nomark _)))))
          (pss_one (ps_ret (pe_bl)))
          (pss_nil))))
        (pss_nil))
      (pss_cons (ps_set (i := 16) sc.nd rfl (Or.inl rfl) (pe_lst (pa_cons (pe_toldD (a := "_law_a") (TT := lawT Pc) (k := 90) T TB rfl (List.mem_cons_self) (fun p hp _ => by rw [List.mem_singleton.mp hp]; exact lawQ.symm) (hr.mono (by decide)) (lamD_by (N := lawN) (sc := defScope (tp 65)) (by decide +kernel)) (fun A outer s H E f c' hr2 => pe_mth D.cancel (hr2.mono (by decide)) (passes_call (takes_of rfl rfl rfl rfl) fun _ _ _ _ h => h) (pv 17) (pa_cons (pe_str) pa_nil))) (pa_cons (pe_toldD (a := "_law_b") (TT := lawT Pc) (k := 90) T TB rfl (List.mem_cons_self) (fun p hp _ => by rw [List.mem_singleton.mp hp]; exact lawQ.symm) (hr.mono (by decide)) (lamD_by (N := lawN) (sc := defScope (tp 65)) (by decide +kernel)) (fun A outer s H E f c' hr2 => pe_mth D.most (hr2.mono (by decide)) (passes_call (takes_of rfl rfl rfl rfl) fun _ _ _ _ h => h) (pv 17) (pa_cons (pe_tup (pa_cons (pe_str) pa_nil)) (pa_cons (pv 21) (pa_cons (pv 18) pa_nil))))) pa_nil))))
      (pss_cons (ps_set (i := 16) sc.nd rfl (Or.inl rfl) (pe_op op_cat (pv 16) (pe_lst (pa_cons (pe_toldD (a := "_law_c") (TT := lawT Pc) (k := 90) T TB rfl (List.mem_cons_self) (fun p hp _ => by rw [List.mem_singleton.mp hp]; exact lawQ.symm) (hr.mono (by decide)) (lamD_by (N := lawN) (sc := defScope (tp 65)) (by decide +kernel)) (fun A outer s H E f c' hr2 => pe_mth D.earliest (hr2.mono (by decide)) (passes_call (takes_of rfl rfl rfl rfl) fun _ _ _ _ h => h) (pv 17) (pa_cons (pv 19) (pa_cons (pv 21) (pa_cons (pe_int) pa_nil))))) (pa_cons (pe_toldD (a := "_law_d") (TT := lawT Pc) (k := 90) T TB rfl (List.mem_cons_self) (fun p hp _ => by rw [List.mem_singleton.mp hp]; exact lawQ.symm) (hr.mono (by decide)) (lamD_by (N := lawN) (sc := defScope (tp 65)) (by decide +kernel)) (fun A outer s H E f c' hr2 => pe_mth D.ask (hr2.mono (by decide)) (passes_call (takes_of rfl rfl rfl rfl) fun _ _ _ _ h => h) (pv 17) (pa_cons (pe_int) pa_nil))) pa_nil)))))
      (pss_one (ps_ret (pe_cmpR (k_op_eqD (K := K) rfl hr.units) (pv 16) (pe_lst (pa_cons (pe_str) (pa_cons (pe_str) (pa_cons (pe_str) (pa_cons (pe_str) pa_nil))))) (nomark _)))))))))))))))))))))))⟩
end
end KS
set_option Elab.async false
set_option linter.all false
set_option maxRecDepth 100000
set_option maxHeartbeats 8000000
set_option pp.maxSteps 400
/-! What stands while the law runs: the row of draws, the tables, the book, the list of what is held. -/
namespace KS
open PySem PySem.Spec PyProof.Rows L2
open LamX
section
variable {K : PySem.W.Frag} {S : Addr × List Int} {a x : Addr} {c : Cat} {os : List Order} {n : Nat} {hl : Option (Addr × List Order)} {vc : V} {TT : List (Addr × Str)} {H H' : Hp}
def HeldAt (K : PySem.W.Frag) (a : Addr) (hl : Option (Addr × List Order)) (H : Hp) : Prop := ∀ lh hos, hl = some (lh, hos) → lh ≠ a ∧ ∃ xs, H lh = some (.lst xs) ∧ DpAll K H xs (hos.map Order.d)
structure LW (K : PySem.W.Frag) (S : Addr × List Int) (a x : Addr) (c : Cat) (os : List Order) (n : Nat) (hl : Option (Addr × List Order)) (vc : V) (TT : List (Addr × Str)) (H : Hp) : Prop where
  cat : Dp K H vc c.d
  ex : ∃ H0, BAt K H0 H x c os n ∧ Row K S a H0 ∧ Tabs TT H0 ∧ HeldAt K a hl H0
/-- the heap without what the book may change -/
def offB (H : Hp) (x lp lr : Addr) : Hp := fun q => if q = x ∨ q = lp ∨ q = lr then none else H q
theorem offB_at {x lp lr q : Addr} {o : HO} (h : H q = some o) (h1 : q ≠ x) (h2 : q ≠ lp) (h3 : q ≠ lr) : offB H x lp lr q = some o := by
  unfold offB
  rw [if_neg (fun z => z.elim h1 fun z => z.elim h2 h3), h]
theorem offB_same {x lp lr : Addr} : Same (offB H x lp lr) H := fun q o e => by
  unfold offB at e
  by_cases h : q = x ∨ q = lp ∨ q = lr
  · rw [if_pos h] at e
    cases e
  · rw [if_neg h] at e
    exact e
/-- all but the row and the tables is kept -/
def Kpt (a : Addr) (H H' : Hp) : Prop := ∀ q o, H q = some o → q ≠ a → (∀ ps, o ≠ .tbl ps) → H' q = some o
theorem Kpt.t {t : Addr} {xs l : List V} (k : Kpt a H H') (hl : H a = some (.lst l)) (h : SqT K H t xs) : SqT K H' t xs := by
  rcases h with (h | ⟨o, h⟩) | h
  · exact .inl (.inl (k _ _ h (ne_of h hl (by intro z; cases z)) fun _ z => by cases z))
  · exact .inl (.inr ⟨o, k _ _ h (ne_of h hl (by intro z; cases z)) fun _ z => by cases z⟩)
  · exact .inr h
theorem LW.step (h : LW K S a x c os n hl vc TT H) (k : Kpt a H H') (hr : Row K S a H') (hT : Tabs TT H') :
    LW K S a x c os n hl vc TT H' ∧ ∃ H0, BAt K H0 H' x c os n ∧ Row K S a H0 ∧ Tabs TT H0 ∧ HeldAt K a hl H0 ∧ ∀ t xs, SqT K H' t xs → SqT K H0 t xs := by
  obtain ⟨H0, B, R0, T0, hh⟩ := h.ex
  obtain ⟨l0, hl0⟩ := R0.isL
  have hla : H a = some (.lst l0) := B.same _ _ hl0
  obtain ⟨dx, lp, lr, vb, ys, zs, hx, hlp, hlr, nlr, x0, lp0, lr0, hc, hy, hz, hzr⟩ := B.ex
  have ax : a ≠ x := ne_of_none hl0 x0
  have alp : a ≠ lp := ne_of_none hl0 lp0
  have alr : a ≠ lr := ne_of_none hl0 lr0
  have hx' := k _ _ hx ax.symm fun _ z => by cases z
  have hlp' := k _ _ hlp alp.symm fun _ z => by cases z
  have hlr' := k _ _ hlr alr.symm fun _ z => by cases z
  have ht : ∀ t xs, SqT K H t xs → SqT K H' t xs := fun t xs => k.t hla
  have tO : ∀ t xs, SqT K H' t xs → SqT K (offB H' x lp lr) t xs := fun t xs q => by
    rcases q with (q | ⟨o, q⟩) | q
    · exact .inl (.inl (offB_at q (ne_of q hx' (by intro z; cases z)) (ne_of q hlp' (by intro z; cases z)) (ne_of q hlr' (by intro z; cases z))))
    · exact .inl (.inr ⟨o, offB_at q (ne_of q hx' (by intro z; cases z)) (ne_of q hlp' (by intro z; cases z)) (ne_of q hlr' (by intro z; cases z))⟩)
    · exact .inr q
  have B' : BAt K (offB H' x lp lr) H' x c os n := ⟨offB_same, dx, lp, lr, vb, ys, zs, hx', hlp', hlr', nlr, by unfold offB; rw [if_pos (.inl rfl)], by unfold offB; rw [if_pos (.inr (.inl rfl))], by unfold offB; rw [if_pos (.inr (.inr rfl))],
    dp_keep ht (Cat.nl c) hc, dpAll_keep ht (nlAll_map _ _ fun o _ => Order.nl o) hy, hz, fun z hz' => (hzr z hz').keep ht⟩
  have in0 : ∀ {q : Addr} {o : HO}, H0 q = some o → q ≠ a → (∀ ps, o ≠ .tbl ps) → offB H' x lp lr q = some o := fun {q o} e na nt => offB_at (k _ _ (B.same _ _ e) na nt) (ne_of_none e x0) (ne_of_none e lp0) (ne_of_none e lr0)
  have R' : Row K S a (offB H' x lp lr) := by
    refine ⟨?_, ?_⟩
    · have g : ∀ {o : HO}, hid H0 a S.1 = some o → (∀ ps, o ≠ .tbl ps) → hid (offB H' x lp lr) a S.1 = some o := fun {o} e nt => by
        have na : S.1 ≠ a := by
          intro z
          rw [z, hid_at] at e
          cases e
        rw [hid_ne na] at e ⊢
        exact in0 e na nt
      rcases R0.hs with (q | ⟨o, q⟩) | q
      · exact .inl (.inl (g q fun _ z => by cases z))
      · exact .inl (.inr ⟨o, g q fun _ z => by cases z⟩)
      · exact .inr q
    · obtain ⟨i, z, y, h1, r⟩ := hr.ex
      exact ⟨i, z, y, offB_at h1 ax alp alr, r⟩
  have T' : Tabs TT (offB H' x lp lr) := fun p hp => by
    obtain ⟨ps, h1, h2, h3⟩ := hT p hp
    refine ⟨ps, offB_at h1 (ne_of h1 hx' (by intro z; cases z)) (ne_of h1 hlp' (by intro z; cases z)) (ne_of h1 hlr' (by intro z; cases z)), h2, fun pos cv hc => ?_⟩
    obtain ⟨cc, e1, e2⟩ := h3 pos cv hc
    have ce : ∀ o : HO, (∀ q, o ≠ .ext q) → CodeO cc p.2 ≠ o := fun o h z => h _ z.symm
    exact ⟨cc, e1, offB_at e2 (ne_of e2 hx' (ce _ fun _ z => by cases z)) (ne_of e2 hlp' (ce _ fun _ z => by cases z)) (ne_of e2 hlr' (ce _ fun _ z => by cases z))⟩
  have h' : HeldAt K a hl (offB H' x lp lr) := fun lh hos e => by
    obtain ⟨na, xs, e1, e2⟩ := hh lh hos e
    exact ⟨na, xs, in0 e1 na (fun _ z => nomatch z), dpAll_keep (fun t xs q => tO t xs (ht t xs (same_t B.same q))) (nlAll_map _ _ fun o _ => Order.nl o) e2⟩
  exact ⟨⟨dp_keep ht (Cat.nl c) h.cat, _, B', R', T', h'⟩, _, B', R', T', h', tO⟩
theorem LW.row (h : LW K S a x c os n hl vc TT H) : Row K S a H := by
  obtain ⟨H0, B, R0, T0, hh⟩ := h.ex
  exact (R0.more B.same).r1
theorem LW.tabs (h : LW K S a x c os n hl vc TT H) : Tabs TT H := by
  obtain ⟨H0, B, R0, T0, hh⟩ := h.ex
  exact T0.ext B.same
theorem LW.more (h : LW K S a x c os n hl vc TT H) (e : Same H H') : LW K S a x c os n hl vc TT H' := (h.step (fun q o e1 _ _ => e _ _ e1) (h.row.more e).r1 (h.tabs.ext e)).1
theorem Stp.kpt (q : Stp K S a H H') : Kpt a H H' := fun p o e n _ => q.at_ n e
theorem LW.stp (h : LW K S a x c os n hl vc TT H) (q : Stp K S a H H') : LW K S a x c os n hl vc TT H' := by
  refine (h.step q.kpt q.r1 fun p hp => ?_).1
  obtain ⟨l, hla⟩ := h.row.isL
  obtain ⟨ps, h1, h2, h3⟩ := h.tabs p hp
  refine ⟨ps, q.at_ (ne_of h1 hla (by intro z; cases z)) h1, h2, fun pos cv hc => ?_⟩
  obtain ⟨cc, e1, e2⟩ := h3 pos cv hc
  exact ⟨cc, e1, q.at_ (ne_of e2 hla (by intro z; cases z)) e2⟩
theorem LW.extN (h : LW K S a x c os n hl vc TT H) (e : ExtN H H') (t : Tabs TT H') : LW K S a x c os n hl vc TT H' := by
  refine (h.step (fun q o e1 _ nt => e _ _ e1 nt) ?_ t).1
  obtain ⟨i, z, y, h1, r⟩ := h.row.ex
  refine ⟨?_, i, z, y, e _ _ h1 (fun _ q => by cases q), r⟩
  have g : ∀ {o : HO}, hid H a S.1 = some o → (∀ ps, o ≠ .tbl ps) → hid H' a S.1 = some o := fun {o} e1 nt => by
    have na : S.1 ≠ a := by
      intro z
      rw [z, hid_at] at e1
      cases e1
    rw [hid_ne na] at e1 ⊢
    exact e _ _ e1 nt
  rcases h.row.hs with (q | ⟨o, q⟩) | q
  · exact .inl (.inl (g q fun _ z => by cases z))
  · exact .inl (.inr ⟨o, g q fun _ z => by cases z⟩)
  · exact .inr q
/-- before the book changes: what is kept -/
theorem LW.open_ (h : LW K S a x c os n hl vc TT H) : ∃ H0, BAt K H0 H x c os n ∧ (∀ os' n' H', BAt K H0 H' x c os' n' → LW K S a x c os' n' hl vc TT H') ∧ ∀ t xs H', Same H0 H' → SqT K H t xs → SqT K H' t xs := by
  obtain ⟨_, H0, B, R0, T0, hh, tO⟩ := h.step (fun q o e1 _ _ => e1) h.row h.tabs
  exact ⟨H0, B, fun os' n' H' B' => ⟨dp_keep (fun t xs q => same_t B'.same (tO t xs q)) (Cat.nl c) h.cat, H0, B', R0, T0, hh⟩, fun t xs H' s q => same_t s (tO t xs q)⟩
theorem LW.b (h : LW K S a x c os n hl vc TT H) : ∃ H0, BAt K H0 H x c os n := let ⟨H0, B, _⟩ := h.ex; ⟨H0, B⟩
theorem LW.ins (h : LW K S a x c os n hl vc TT H) : ∃ dx fs, H x = some (.ins (cB K) dx fs) ∧ ∀ m, m ∉ battrs → fs.lookup m = none := by
  obtain ⟨H0, B⟩ := h.b
  obtain ⟨dx, lp, lr, vb, ys, zs, hx, _⟩ := B.ex
  exact ⟨dx, _, hx, fun m hm => bfs_no hm⟩
theorem LW.held {lh : Addr} {hos : List Order} (h : LW K S a x c os n (some (lh, hos)) vc TT H) : ∃ xs, H lh = some (.lst xs) ∧ DpAll K H xs (hos.map Order.d) := by
  obtain ⟨H0, B, R0, T0, hh⟩ := h.ex
  obtain ⟨_, xs, e1, e2⟩ := hh lh hos rfl
  exact ⟨xs, B.same _ _ e1, e2.same B.same⟩
/-- a new list of what is held -/
theorem LW.hold {lh : Addr} {hos : List Order} {xs : List V} (h : LW K S a x c os n hl vc TT H) (e : Same H H') (h0 : H lh = none) (h1 : H' lh = some (.lst xs)) (hd : DpAll K H' xs (hos.map Order.d)) : LW K S a x c os n (some (lh, hos)) vc TT H' := by
  have h' := h.more e
  obtain ⟨_, H0, B, R0, T0, hh, tO⟩ := h.step (fun q o e1 _ _ => e1) h.row h.tabs
  obtain ⟨dx, lp, lr, vb, ys, zs, hx, hlp, hlr, nlr, x0, lp0, lr0, hc, hy, hz, hzr⟩ := B.ex
  obtain ⟨l0, hl0⟩ := R0.isL
  have nx := (ne_of_none hx h0).symm
  have nlp := (ne_of_none hlp h0).symm
  have nlr2 := (ne_of_none hlr h0).symm
  have na : lh ≠ a := (ne_of_none (B.same _ _ hl0) h0).symm
  obtain ⟨l, hla⟩ := h.row.isL
  -- the rest stands in the heap without the book's own
  have s0 : Same H0 (offB H' x lp lr) := fun q o e1 => offB_at (e _ _ (B.same _ _ e1)) (ne_of_none e1 x0) (ne_of_none e1 lp0) (ne_of_none e1 lr0)
  have hx' := e _ _ hx
  have hlp' := e _ _ hlp
  have hlr' := e _ _ hlr
  have tO' : ∀ t xs, SqT K H' t xs → SqT K (offB H' x lp lr) t xs := fun t xs q => by
    rcases q with (q | ⟨o, q⟩) | q
    · exact .inl (.inl (offB_at q (ne_of q hx' (by intro z; cases z)) (ne_of q hlp' (by intro z; cases z)) (ne_of q hlr' (by intro z; cases z))))
    · exact .inl (.inr ⟨o, offB_at q (ne_of q hx' (by intro z; cases z)) (ne_of q hlp' (by intro z; cases z)) (ne_of q hlr' (by intro z; cases z))⟩)
    · exact .inr q
  refine ⟨h'.cat, offB H' x lp lr, ⟨offB_same, dx, lp, lr, vb, ys, zs, hx', hlp', hlr', nlr, by unfold offB; rw [if_pos (.inl rfl)], by unfold offB; rw [if_pos (.inr (.inl rfl))], by unfold offB; rw [if_pos (.inr (.inr rfl))], hc.same e, hy.same e, hz, fun z hz' => (hzr z hz').keep fun t xs q => same_t e q⟩,
    (R0.more s0).r1, T0.ext s0, fun lh' hos' e2 => ?_⟩
  cases e2
  exact ⟨na, xs, offB_at h1 nx nlp nlr2, dpAll_keep tO' (nlAll_map _ _ fun o _ => Order.nl o) hd⟩
end
/-- the orders that are held -/
def ABCD : List Str := ["a", "b", "c", "d"]
structure OsOk (c : Cat) (os : List Order) : Prop where
  ok : ∀ o ∈ os, o.Ok c
  nd : (os.map Order.n).Nodup
  nm : ∀ o ∈ os, o.n ∈ ABCD
  two : ∀ o ∈ os, o.ws.length ≤ 2
  f : ableB c (wishesOf os) = true
theorem nodup_in {α : Type} [DecidableEq α] : ∀ {l L : List α}, l.Nodup → (∀ x ∈ l, x ∈ L) → l.length ≤ L.length
  | [], _, _, _ => Nat.zero_le _
  | a :: l, L, h, s => by
    rw [List.nodup_cons] at h
    have q := nodup_in (L := L.erase a) h.2 fun x hx => (List.mem_erase_of_ne (fun e => h.1 (by rw [← e]; exact hx))).mpr (s x (List.mem_cons_of_mem _ hx))
    rw [List.length_erase_of_mem (s a List.mem_cons_self)] at q
    have q2 := List.length_pos_of_mem (s a List.mem_cons_self)
    rw [List.length_cons]
    omega
theorem names_len {os : List Order} (nd : (os.map Order.n).Nodup) (nm : ∀ o ∈ os, o.n ∈ ABCD) : os.length ≤ 4 := by
  have q := nodup_in (L := ABCD) nd fun x hx => by
    obtain ⟨o, ho, rfl⟩ := List.mem_map.mp hx
    exact nm o ho
  rw [List.length_map] at q
  exact q
theorem wishes_two : ∀ {os : List Order}, (∀ o ∈ os, o.ws.length ≤ 2) → (wishesOf os).length ≤ 2 * os.length
  | [], _ => Nat.zero_le _
  | o :: os, h => by
    have q := wishes_two (os := os) fun o ho => h o (List.mem_cons_of_mem _ ho)
    have q2 := h o List.mem_cons_self
    show (wishesOf1 o ++ wishesOf os).length ≤ _
    rw [List.length_append, List.length_cons]
    have e : (wishesOf1 o).length = o.ws.length := by
      unfold wishesOf1
      rw [List.length_mapIdx]
    omega
theorem OsOk.len {c : Cat} {os : List Order} (h : OsOk c os) : os.length ≤ 4 := names_len h.nd h.nm
theorem OsOk.wl {c : Cat} {os : List Order} (h : OsOk c os) : (wishesOf os).length ≤ 8 := by
  have q := wishes_two h.two
  have q2 := h.len
  omega
theorem OsOk.feas {c : Cat} {os : List Order} (h : OsOk c os) : FeasO c os := (feas_iff _ _).mpr h.f
theorem OsOk.nil (c : Cat) : OsOk c [] := ⟨(fun _ h => nomatch h), List.nodup_nil, (fun _ h => nomatch h), (fun _ h => nomatch h), by
  show ([[]] : List (List FW)).all _ = true
  have e : over c [] = 0 := by
    unfold over
    have z : c.sups.filter (fitsAny c []) = [] := List.filter_eq_nil_iff.mpr fun s _ => by
      show ¬ (false = true)
      exact Bool.false_ne_true
    rw [z]
    rfl
  simp [e]⟩
theorem OsOk.filter {c : Cat} {os : List Order} (h : OsOk c os) (p : Order → Bool) : OsOk c (os.filter p) :=
  ⟨fun o ho => h.ok o (List.mem_filter.mp ho).1, List.Nodup.sublist (List.filter_sublist.map _) h.nd, fun o ho => h.nm o (List.mem_filter.mp ho).1, fun o ho => h.two o (List.mem_filter.mp ho).1, able_sub (wishes_sub List.filter_sublist) h.f⟩
theorem OsOk.add {c : Cat} {os : List Order} {o : Order} (h : OsOk c os) (ok : o.Ok c) (nm : o.n ∈ ABCD) (two : o.ws.length ≤ 2) (new : o.n ∉ os.map Order.n) (f : ableB c (wishesOf (os ++ [o])) = true) : OsOk c (os ++ [o]) := by
  refine ⟨fun z hz => ?_, ?_, fun z hz => ?_, fun z hz => ?_, f⟩
  · rcases List.mem_append.mp hz with hz | hz
    · exact h.ok z hz
    · rw [List.mem_singleton.mp hz]; exact ok
  · rw [List.map_append, List.nodup_append]
    refine ⟨h.nd, by simp, fun x hx y hy e => ?_⟩
    rw [List.map_cons, List.map_nil] at hy
    exact new (by rw [← List.mem_singleton.mp hy, ← e]; exact hx)
  · rcases List.mem_append.mp hz with hz | hz
    · exact h.nm z hz
    · rw [List.mem_singleton.mp hz]; exact nm
  · rcases List.mem_append.mp hz with hz | hz
    · exact h.two z hz
    · rw [List.mem_singleton.mp hz]; exact two
theorem OsOk.add8 {c : Cat} {os : List Order} {o : Order} (h : OsOk c os) (nm : o.n ∈ ABCD) (two : o.ws.length ≤ 2) (new : o.n ∉ os.map Order.n) : (wishesOf (os ++ [o])).length ≤ 8 := by
  have l4 : (os ++ [o]).length ≤ 4 := names_len (by
    rw [List.map_append, List.nodup_append]
    refine ⟨h.nd, by simp, fun x hx y hy e => ?_⟩
    rw [List.map_cons, List.map_nil] at hy
    exact new (by rw [← List.mem_singleton.mp hy, ← e]; exact hx)) fun z hz => by
      rcases List.mem_append.mp hz with hz | hz
      · exact h.nm z hz
      · rw [List.mem_singleton.mp hz]; exact nm
  have q := wishes_two (os := os ++ [o]) fun z hz => by
    rcases List.mem_append.mp hz with hz | hz
    · exact h.two z hz
    · rw [List.mem_singleton.mp hz]; exact two
  omega
end KS
set_option Elab.async false
set_option linter.all false
set_option maxRecDepth 100000
set_option maxHeartbeats 16000000
set_option pp.maxSteps 400
/-! The law's walk. -/
namespace KS
open PySem PySem.Spec PyProof.Rows L2
open LamX
theorem dp_nats {K : PySem.W.Frag} {H : Hp} : ∀ l : List Nat, DpAll K H (l.map fun i => V.int (i : Nat)) (l.map fun d : Nat => PyData.int (d : Nat))
  | [] => .nil
  | _ :: l => .cons (.int _) (dp_nats l)
section
variable {P : Program} {w : World} {K : PySem.W.Frag} {mg : Str → Option Value} {base : Heap}
theorem law_walk (T : Tx K mg) (D : LD P w K mg base) {c Pc : Addr} (TB : TabB base mg c Pc) (A : Around) (outer : List Env) (s : Shared) (H : Hp) (E : XK) (hr : Room 99 (A.deeper (envOfC "law" (defScope (tp 65)) s.heap.objs.size (He.ga K "law") (.ref c)))) {sa : Addr} {ns : List Int} {Q : VK}
    (hS : SqL K H sa (ns.map V.int)) (hP : H Pc = some (.tbl #[])) (kQ : ∀ H', Q (.bl true) H') : (lawD T D TB A outer s H E hr).1 { nx := fun _ H' => Q .non H', rt := Q } (L2.start lawN [.ref sa]) H := by
  -- the row
  refine ⟨_, rfl, by show 4 ≤ sizeLine; decide, fun a ha => ?_⟩
  have s0 : Same H (hid (upd H a (.lst [.ref sa, .int 0, .int 7202, .int 0])) a) := fun q o e => by
    rw [hid_ne (ne_of_none e ha), upd_ne (ne_of_none e ha)]
    exact e
  have R0 : Row K (sa, ns) a (upd H a (.lst [.ref sa, .int 0, .int 7202, .int 0])) := ⟨s0.seq hS, 0, 7202, 0, upd_same, by decide, by decide⟩
  have T0 : Tabs (lawT Pc) (upd H a (.lst [.ref sa, .int 0, .int 7202, .int 0])) := fun p hp => by
    rw [List.mem_singleton.mp hp]
    exact TabS.nil (by rw [upd_ne (ne_of_none hP ha)]; exact hP)
  generalize upd H a (.lst [.ref sa, .int 0, .int 7202, .int 0]) = H1 at R0 T0 ⊢
  -- the catalog
  refine ⟨_, rfl, (sa, ns), a, rfl, R0, fun vc c H2 LC S1 hc => ?_⟩
  -- the book
  refine ⟨_, rfl, fun x dx hx hdx xne => ?_⟩
  have sB : Same H2 (upd (upd H2 dx (.own x)) x (.ins (cB K) dx [])) := same_mut (same_new hdx) hx
  refine ⟨H2, x, dx, vc, c, rfl, sB, hx, upd_same, hc, LC.ok, fun H3 B3 => ⟨rfl, ?_⟩⟩
  have T2 : Tabs (lawT Pc) H2 := by
    obtain ⟨l, hla⟩ := R0.isL
    intro p hp
    obtain ⟨ps, h1, h2, h3⟩ := T0 p hp
    refine ⟨ps, S1.at_ (ne_of h1 hla (by intro z; cases z)) h1, h2, fun pos cv hcv => ?_⟩
    obtain ⟨cc, e1, e2⟩ := h3 pos cv hcv
    exact ⟨cc, e1, S1.at_ (ne_of e2 hla (by intro z; cases z)) e2⟩
  have W3 : LW K (sa, ns) a x c [] 0 none vc (lawT Pc) H3 := ⟨hc.same B3.same, H2, B3, S1.r1, T2, fun _ _ e => nomatch e⟩
  refine ⟨by show 0 ≤ sizeLine; decide, fun lh hlh => ⟨by show 3 ≤ sizeLine; decide, fun t ht => ?_⟩⟩
  have W4 : LW K (sa, ns) a x c [] 0 (some (lh, [])) vc (lawT Pc) (upd H3 lh (.lst [])) := W3.hold (same_new hlh) hlh upd_same .nil
  have W5 := W4.more (same_new (o := .tup [.ref x, .ref lh, .int 0]) ht)
  refine ⟨t, _, rfl, SqT.of upd_same, rfl, _, _, rfl, _, _, rfl, _, _, rfl, rfl, ?_⟩
  generalize upd (upd H3 lh (.lst [])) t (.tup [.ref x, .ref lh, .int 0]) = H5 at W5 ⊢
  -- the turns
  refine ⟨_, rfl, (sa, ns), a, _, rfl, W5.row, by decide, by decide, fun z H6 z0 z1 S6 => ?_⟩
  have W6 := W5.stp S6
  obtain ⟨zn, rfl, hzn⟩ := fin_ z0 z1
  have ez : ((zn : Nat) : Int).toNat = zn := Int.toNat_natCast _
  refine ⟨_, rfl, by omega, by omega, ?_⟩
  rw [ez]
  refine for_it (walk_range (lo := 0) (n := zn)) (fun i σ H7 => ∃ (lh : Addr) (os : List Order) (n : Nat) (v5 v6 v7 v20 : Option V), σ = [some (.ref sa), some (.ref a), some vc, some (.ref lh), some (.int (n : Nat)), v5, v6, v7, none, none, none, none, none, none, none, none, none, some (.ref x), none, none, v20, none, none, none] ∧ LW K (sa, ns) a x c os n (some (lh, os)) vc (lawT Pc) H7 ∧ OsOk c os ∧ n ≤ i)
    ⟨lh, [], 0, none, none, none, none, rfl, W6, OsOk.nil c, Nat.le_refl _⟩ (fun _ _ _ _ _ => True.intro) ?_ ?_
  · rintro i y σ H7 H8 hi ⟨lh, os, n, v5, v6, v7, v20, rfl, W, O, ni⟩ ⟨rfl, rfl⟩
    -- the order
    refine ⟨_, rfl, _, rfl, _, rfl, by show 4 ≤ sizeLine; decide, fun nl hnl => ?_⟩
    have W1 := W.more (same_new (o := .lst [.str "a", .str "b", .str "c", .str "d"]) hnl)
    have la : a ≠ nl := by
      obtain ⟨l, hla⟩ := W.row.isL
      exact ne_of_none hla hnl
    refine ⟨(sa, ns), a, nl, _, rfl, W1.row, la, SqL.of upd_same, by show 1 ≤ 4; decide, by show 4 ≤ 100; decide, fun j nv H9 hj S9 => ?_⟩
    have W2 := W1.stp S9
    obtain ⟨nm, hnm, rfl⟩ : ∃ nm, nm ∈ ABCD ∧ nv = .str nm := by
      match j, hj with
      | 0, hj => cases hj; exact ⟨"a", by decide +kernel, rfl⟩
      | 1, hj => cases hj; exact ⟨"b", by decide +kernel, rfl⟩
      | 2, hj => cases hj; exact ⟨"c", by decide +kernel, rfl⟩
      | 3, hj => cases hj; exact ⟨"d", by decide +kernel, rfl⟩
      | j + 4, hj => cases hj
    have nok : nameOk nm = true := by
      have q : ∀ z ∈ ABCD, nameOk z = true := by decide +kernel
      exact q nm hnm
    refine ⟨(sa, ns), a, vc, c, nm, rfl, W2.row, W2.cat, LC.ok, nok, fun vo o H10 ook on o2 o9 S10 ho => ?_⟩
    have W3 := W2.stp S10
    subst on
    obtain ⟨xs, hlh, hxs⟩ := W3.held
    have lx := hxs.length
    rw [List.length_map] at lx
    have o4 := O.len
    refine ⟨_, rfl, lh, rfl, ⟨_, SqL.of hlh⟩, ?_⟩
    refine lc_gen (walk_list (xs := xs)) (fun i => os[i]?.map fun o => .str o.n) (by omega) (fun H11 s11 => SqL.of (s11 _ _ hlh)) (fun j y H11 H12 Rn Ry hj s11 hY hn hy => ?_) (fun nl2 H11 hnl2 s11 h11 => ?_)
    · obtain ⟨rfl, hx1⟩ := hY
      obtain ⟨d, hd1, hd2⟩ := hxs.get' hx1
      rw [List.getElem?_map] at hd1
      obtain ⟨o1, ho1, rfl⟩ := Option.map_eq_some_iff.mp hd1
      obtain ⟨b, aw, rfl, hb, _⟩ := order_at (hd2.same s11)
      exact ⟨rfl, _, rfl, b, _, _, _, rfl, rfl, hb, rfl, hy _ (by rw [ho1]; rfl) _ (Same.refl _)⟩
    have e1 : (List.range xs.length).filterMap (fun i => os[i]?.map fun o => V.str o.n) = (os.map Order.n).map V.str := by
      rw [lx, fm_get_map, List.map_map]
      rfl
    rw [e1] at h11
    have W4 := W3.more s11
    have ho4 := ho.same s11
    obtain ⟨bo, aw, rfl, hbo, haw⟩ := order_at ho4
    refine ⟨fun σ H' => ∃ (lh : Addr) (os : List Order) (n : Nat) (v5 v6 v7 v20 : Option V), σ = [some (.ref sa), some (.ref a), some vc, some (.ref lh), some (.int (n : Nat)), v5, v6, v7, none, none, none, none, none, none, none, none, none, some (.ref x), none, none, v20, none, none, none] ∧ LW K (sa, ns) a x c os n (some (lh, os)) vc (lawT Pc) H' ∧ OsOk c os ∧ n ≤ i + 1, ?_, ?_⟩
    · refine ⟨_, rfl, bo, _, _, _, rfl, rfl, hbo, rfl, _, rfl, nl2, _, rfl, .inl (SqL.of h11), rfl, flat_strs _, _, rfl, ?_⟩
      rw [is_str]
      refine ite2 (fun hin => ?_) fun hin => ?_
      · have hin := of_decide_eq_true hin
        -- a name that is taken
        refine ⟨W4.tabs, fun H12 eN T12 => ?_⟩
        have W5 := W4.extN eN T12
        have ho5 : Dp K H12 (.ref bo) o.d := dp_keep (fun t xs q => by
          obtain ⟨l, hl⟩ := W4.row.isL
          exact Kpt.t (a := a) (fun q o e _ nt => eN _ _ e nt) hl q) (Order.nl o) ho4
        obtain ⟨dx5, fs5, hx5, no5⟩ := W5.ins
        obtain ⟨H0, B5⟩ := W5.b
        refine ⟨_, rfl, x, dx5, fs5, rfl, hx5, no5 _ (by decide +kernel), _, rfl, H0, x, _, c, os, n, rfl, B5, LC.ok, by omega, by omega, O.ok, .inr (.inl ⟨o, ho5, ook, hin, fun H13 s13 => ?_⟩)⟩
        refine ⟨false, T.exm ("BadName", "BadItem", false) (by decide +kernel), fun e => (by cases e), fun _ => ⟨true, T.exm ("BadName", "BadName", true) (by decide +kernel), fun _ => ?_, fun e => (by cases e)⟩⟩
        refine ⟨rfl, _, rfl, iteEf rfl ?_⟩
        have W6 := W5.more s13
        have ho6 := ho5.same s13
        refine ⟨_, rfl, (sa, ns), a, _, rfl, W6.row, by decide, by decide, fun z1 H14 z10 z11 S14 => ?_⟩
        have W7 := W6.stp S14
        have ho7 := S14.dp (Order.nl o) ho6
        refine ⟨rfl, _, rfl, ite2 (fun _ => ?_) fun _ => ⟨lh, os, n, _, _, _, _, rfl, W7, O, by omega⟩⟩
        -- it is cancelled
        obtain ⟨dx7, fs7, hx7, no7⟩ := W7.ins
        obtain ⟨H07, B7, back, tO⟩ := W7.open_
        obtain ⟨bo7, aw7, eb, hbo7, _⟩ := order_at ho7
        cases eb
        refine ⟨_, rfl, x, dx7, fs7, rfl, hx7, no7 _ (by decide +kernel), _, rfl, bo, _, _, _, rfl, rfl, hbo7, rfl, H07, x, c, os, n, o.n, rfl, B7, by omega, fun q => absurd hin q, fun _ H15 B15 => ?_⟩
        have W8 := back _ _ _ B15
        have hbo8 := tO _ _ _ B15.same hbo7
        obtain ⟨xs8, hlh8, hxs8⟩ := W8.held
        have lx8 := hxs8.length
        rw [List.length_map] at lx8
        refine ⟨_, rfl, lh, rfl, ⟨_, SqL.of hlh8⟩, ?_⟩
        refine lc_gen (walk_list (xs := xs8)) (fun i => (os[i]?).bind fun o1 => if decide (o1.n ≠ o.n) = true then xs8[i]? else none) (by omega) (fun H16 s16 => SqL.of (s16 _ _ hlh8)) (fun j y H16 H17 Rn Ry hj s16 hY hn hy => ?_) (fun lh2 H16 hl2 s16 h16 => ?_)
        · obtain ⟨rfl, hx1⟩ := hY
          obtain ⟨d, hd1, hd2⟩ := hxs8.get' hx1
          rw [List.getElem?_map] at hd1
          obtain ⟨o1, ho1, rfl⟩ := Option.map_eq_some_iff.mp hd1
          obtain ⟨b, aw1, rfl, hb, _⟩ := order_at (hd2.same s16)
          rw [ho1] at hn hy
          refine ⟨rfl, _, rfl, b, _, _, _, rfl, rfl, hb, rfl, _, rfl, bo, _, _, _, rfl, rfl, same_t s16 hbo8, rfl, rfl, _, rfl, ?_⟩
          by_cases e : o1.n = o.n
          · refine iteEf (by rw [decide_eq_true (by rw [e])]; rfl) (hn ?_ _ (Same.refl _))
            show (if decide (o1.n ≠ o.n) = true then xs8[j]? else none) = none
            rw [if_neg (by rw [decide_eq_false (fun q => q e)]; exact Bool.false_ne_true)]
          · refine iteE (by rw [decide_eq_false (fun q => e (V.str.inj q))]; rfl) ⟨_, rfl, hy _ ?_ _ (Same.refl _)⟩
            show (if decide (o1.n ≠ o.n) = true then xs8[j]? else none) = _
            rw [if_pos (decide_eq_true e)]
            exact hx1
        · refine ⟨lh2, os.filter fun o1 => decide (o1.n ≠ o.n), n, _, _, _, _, rfl, W8.hold s16 hl2 h16 (filter_dp _ (hxs8.same s16)), O.filter _, by omega⟩
      · have hin : o.n ∉ os.map Order.n := fun q => hin (decide_eq_true q)
        -- a new name
        have wl9 := O.add8 hnm o2 hin
        obtain ⟨xs4, hlh4, hxs4⟩ := W4.held
        have lx4 := hxs4.length
        rw [List.length_map] at lx4
        have addD : ∀ {H' : Hp}, Same H11 H' → DpAll K H' (xs4 ++ [.ref bo]) ((os ++ [o]).map Order.d) := fun s => by
          rw [List.map_append]
          exact DpAll.append (hxs4.same s) (.cons (ho4.same s) .nil)
        refine ⟨_, rfl, _, rfl, _, rfl, by show 1 ≤ sizeLine; decide, fun q1 hq1 => ?_⟩
        have t1 := same_new (o := .lst [.ref bo]) hq1
        refine ⟨lh, q1, xs4, [.ref bo], rfl, rfl, t1 _ _ hlh4, upd_same, Nat.le_trans (by rw [List.length_singleton]; omega : xs4.length + [V.ref bo].length ≤ 100) (by decide), fun q2 hq2 => ?_⟩
        have t2 := t1.trans (same_new (o := .lst (xs4 ++ [.ref bo])) hq2)
        have okA : ∀ z ∈ os ++ [o], z.Ok c := fun z hz => (List.mem_append.mp hz).elim (O.ok z) fun hz => by rw [List.mem_singleton.mp hz]; exact ook
        refine ⟨vc, q2, xs4 ++ [.ref bo], c, os ++ [o], rfl, (W4.more t2).cat, LC.ok, SqL.of upd_same, addD t2, by rw [List.length_append, List.length_singleton]; omega, okA, by omega, fun H12 s12 => ?_⟩
        have t12 := t2.trans s12
        have W5 := W4.more t12
        have ho5 := ho4.same t12
        have hdue := feas_iff c (wishesOf (os ++ [o]))
        -- what the book says
        obtain ⟨dx5, fs5, hx5, no5⟩ := W5.ins
        obtain ⟨H05, B5, back, tO⟩ := W5.open_
        refine ⟨_, rfl, x, dx5, fs5, rfl, hx5, no5 _ (by decide +kernel), _, rfl, H05, x, _, c, os, n, rfl, B5, LC.ok, by omega, by omega, O.ok, .inr (.inr ⟨o, ho5, ook, hin, fun F H13 B13 => ?_, fun nF H13 B13 => ?_⟩)⟩
        · have due := hdue.mp F
          rw [due]
          refine ⟨_, rfl, true, true, rfl, _, rfl, iteF ?_⟩
          have W6 := back _ _ _ B13
          have ho6 : Dp K H13 (.ref bo) o.d := dp_keep (fun t xs q => tO t xs _ B13.same q) (Order.nl o) ho5
          obtain ⟨xs6, hlh6, hxs6⟩ := W6.held
          have lx6 := hxs6.length
          rw [List.length_map] at lx6
          refine ⟨_, rfl, _, rfl, iteT ?_⟩
          refine ⟨_, rfl, _, rfl, by show 1 ≤ sizeLine; decide, fun q3 hq3 => ?_⟩
          have u1 := same_new (o := .lst [.ref bo]) hq3
          refine ⟨lh, q3, xs6, [.ref bo], rfl, rfl, u1 _ _ hlh6, upd_same, Nat.le_trans (by rw [List.length_singleton]; omega : xs6.length + [V.ref bo].length ≤ 100) (by decide), fun q4 hq4 => ?_⟩
          have u2 := same_new (o := .lst (xs6 ++ [.ref bo])) hq4
          have W7 := (W6.more u1).hold u2 hq4 upd_same (hos := os ++ [o]) (by
            rw [List.map_append]
            exact DpAll.append (hxs6.same (u1.trans u2)) (.cons (ho6.same (u1.trans u2)) .nil))
          refine ⟨_, rfl, by show 2 ≤ sizeLine; decide, fun q5 hq5 => ?_⟩
          have W8 := W7.more (same_new (o := .tup [.ref q4, .int (n : Nat)]) hq5)
          refine ⟨q5, _, rfl, SqT.of upd_same, rfl, _, _, rfl, _, _, rfl, rfl, ?_⟩
          exact ⟨q4, os ++ [o], n, _, _, _, _, rfl, W8, O.add ook hnm o2 hin due, by omega⟩
        · have due : ableB c (wishesOf (os ++ [o])) = false := Bool.eq_false_iff.mpr fun e => nF (hdue.mpr e)
          rw [due]
          refine ⟨_, rfl, false, false, rfl, _, rfl, iteF ?_⟩
          have W6 := back _ _ _ B13
          refine ⟨_, rfl, _, rfl, iteF ?_⟩
          refine ⟨_, rfl, _, rfl, _, _, rfl, rfl, by show 2 ≤ sizeLine; decide, fun q5 hq5 => ?_⟩
          have W8 := W6.more (same_new (o := .tup [.ref lh, .int ((n : Nat) + 1)]) hq5)
          refine ⟨q5, _, rfl, SqT.of upd_same, rfl, _, _, rfl, _, _, rfl, rfl, ?_⟩
          exact ⟨lh, os, n + 1, _, _, _, _, rfl, W8, O, by omega⟩
    · rintro σ H9 ⟨lh, os, n, v5, v6, v7, v20, rfl, W, O, ni⟩
      have o4 := O.len
      have w8 := O.wl
      obtain ⟨dx1, fs1, hx1, no1⟩ := W.ins
      obtain ⟨H01, B1⟩ := W.b
      refine ⟨_, rfl, x, dx1, fs1, rfl, hx1, H01, x, c, os, n, rfl, B1, fun v H10 s10 hv => ?_⟩
      have W1 := W.more s10
      obtain ⟨xs1, hlh1, hxs1⟩ := W1.held
      refine ⟨_, rfl, lh, xs1, rfl, .inl ⟨SqL.of hlh1, fun tp htp => ?_⟩⟩
      have t1 := same_new (o := .tup xs1) htp
      have sm : small 6 (.tuple (os.map Order.d)) := ⟨by rw [List.length_map]; omega, fun d hd => by
        obtain ⟨o1, ho1, rfl⟩ := List.mem_map.mp hd
        exact small_order (O.ok o1 ho1)⟩
      refine ⟨v, .ref tp, _, rfl, sm, hv.same t1, .tup (SqT.of upd_same) (hxs1.same t1), fun H11 s11 => ⟨_, rfl, iteF ?_⟩⟩
      have W2 := W1.more (t1.trans s11)
      obtain ⟨dx2, fs2, hx2, no2⟩ := W2.ins
      obtain ⟨H02, B2⟩ := W2.b
      refine ⟨_, rfl, _, rfl, _, rfl, x, dx2, fs2, rfl, hx2, no2 _ (by decide +kernel), H02, x, c, os, n, rfl, B2, LC.ok, by omega, O.ok, O.feas, fun v2 H12 rest g G s12 hv2 => ?_⟩
      have W3 := W2.more s12
      obtain ⟨xs3, hlh3, hxs3⟩ := W3.held
      obtain ⟨as, sv, rfl, hSS, hSA⟩ := Dp.tup_inv hv2
      have m40 : (wishesOf os).length * c.sups.length ≤ 8 * 5 := Nat.mul_le_mul w8 LC.sn
      refine ⟨vc, lh, as, xs3, sv, c, os, rest, g, rfl, W3.cat, LC.ok, SqL.of hlh3, hxs3, by omega, O.ok, O.nd, by omega, G, hSS, hSA, fun H13 s13 => ⟨_, rfl, iteF ?_⟩⟩
      exact ⟨lh, os, n, _, _, _, _, rfl, W3.more s13, O, ni⟩
  · rintro σ H7 ⟨lh, os, n, v5, v6, v7, v20, rfl, W, O, ni⟩
    have o4 := O.len
    have w8 := O.wl
    have wok := wishes_ok O.ok
    have wnd := wishes_nd O.nd
    have ws3 : ∀ o ∈ os, o.ws.length ≤ 3 := fun o ho => (O.ok o ho).wn.2
    have emp : PyData.eqv (.list []) (.list []) = true := by rw [eqv_nil]; rfl
    have nones : ∀ n : Nat, (List.range n).filterMap (fun _ => (none : Option V)) = [] := fun n => by simp
    have shE : SeqAt.shaped (.list []) = true := (Sm.lst (n := 1) Sm.nil).shaped
    -- the refusals
    obtain ⟨dx1, fs1, hx1, no1⟩ := W.ins
    obtain ⟨H01, B1⟩ := W.b
    refine ⟨_, rfl, x, dx1, fs1, rfl, hx1, H01, x, c, os, n, rfl, B1, fun p1 zs1 H8 s8 hp1 hz1 _ => ?_⟩
    have W1 := W.more s8
    refine ⟨p1, zs1, rfl, .inl (SqL.of hp1), _, rfl, rfl, _, rfl, iteEf (by rw [hz1]; simp) ?_⟩
    obtain ⟨dx2, fs2, hx2, no2⟩ := W1.ins
    obtain ⟨H02, B2⟩ := W1.b
    refine ⟨_, rfl, x, dx2, fs2, rfl, hx2, H02, x, c, os, n, rfl, B2, fun p2 zs2 H9 s9 hp2 hz2 hr2 => ?_⟩
    have W2 := W1.more s9
    refine ⟨p2, rfl, ⟨_, SqL.of hp2⟩, ?_⟩
    refine lc_gen (walk_list (xs := zs2)) (fun _ => none) (by omega) (fun H10 s10 => SqL.of (s10 _ _ hp2)) (fun j y H10 H11 Rn Ry hj s10 hY hn hy => ?_) (fun D1 H10 hD1 s10 h10 => ?_)
    · obtain ⟨rfl, hz⟩ := hY
      obtain ⟨t, t2, v, v2, rfl, ht, ht2⟩ := hr2 y (List.mem_of_getElem? hz)
      exact ⟨rfl, _, rfl, t, _, _, _, rfl, rfl, same_t s10 ht, rfl, t2, _, _, _, rfl, rfl, same_t s10 ht2, rfl, rfl, _, rfl, iteEf (by simp) (hn rfl _ (Same.refl _))⟩
    rw [nones] at h10
    have W3 := W2.more s10
    refine ⟨by show 0 ≤ sizeLine; decide, fun q1 hq1 => ?_⟩
    have t1 := same_new (o := .lst []) hq1
    have W4 := W3.more t1
    refine ⟨.list [], .list [], .lst (SqL.of (t1 _ _ h10)) .nil, .lst (SqL.of upd_same) .nil, shE, shE, _, rfl, iteEf (by rw [emp]; rfl) ?_⟩
    generalize upd H10 q1 (.lst []) = H11 at W4 ⊢
    -- the wish
    refine ⟨_, rfl, _, rfl, (sa, ns), a, vc, c, "x", rfl, W4.row, W4.cat, LC.ok, by decide +kernel, fun vo o H12 ook on o2 o9 S12 ho => ?_⟩
    have W5 := W4.stp S12
    obtain ⟨bo, vw, rfl, hbo, hvw⟩ := order_at ho
    obtain ⟨aw, xw, rfl, hSw, hAw⟩ := Dp.tup_inv hvw
    have hw0 : o.ws[0]? = some (o.ws[0]'(ook.wn.1)) := List.getElem?_eq_getElem ook.wn.1
    generalize o.ws[0]'(ook.wn.1) = w0 at hw0
    have w0ok := ook.ws w0 (List.mem_of_getElem? hw0)
    obtain ⟨z0, hz0, hzd0⟩ := hAw.get (i := 0) (d := w0.d) (by rw [List.getElem?_map, hw0]; rfl)
    obtain ⟨b0, vi, rfl, hb0, hvi⟩ := wish_at hzd0
    refine ⟨_, rfl, bo, _, _, _, rfl, rfl, hbo, rfl, aw, xw, _, .ref b0, rfl, rfl, hSw, at_of (j := 0) rfl hz0, b0, _, _, _, rfl, rfl, hb0, rfl, ?_⟩
    refine ⟨_, rfl, bo, _, _, _, rfl, rfl, hbo, rfl, _, rfl, bo, _, _, _, rfl, rfl, hbo, rfl, by show 3 ≤ sizeLine; decide, fun t2 ht2 => ?_⟩
    have u2 := same_new (o := .tup [vi, .str o.r, .int o.by_]) ht2
    refine ⟨t2, _, rfl, SqT.of upd_same, rfl, _, _, rfl, _, _, rfl, _, _, rfl, rfl, ?_⟩
    have W6 := W5.more u2
    have hvi6 := hvi.same u2
    generalize upd H12 t2 (.tup [vi, .str o.r, .int o.by_]) = H13 at W6 hvi6 ⊢
    have itn := w0ok.names
    have iti := w0ok.its
    have rn := ook.rn
    have rin := ook.r
    have by0 := ook.by_
    generalize w0.its = its at *
    generalize o.r = r at *
    generalize o.by_ = b at *
    have asked : ∀ {H' : Hp}, LW K (sa, ns) a x c os n (some (lh, os)) vc (lawT Pc) H' → Dp K H' vi (strsD its) → ∃ H0, Askd K H0 H' x vi c os n its r := fun W' hv' => let ⟨H0, B⟩ := W'.b; ⟨H0, B, LC.ok, by omega, O.ok, O.feas, hv', itn, rn, rin⟩
    -- most
    obtain ⟨dx3, fs3, hx3, no3⟩ := W6.ins
    obtain ⟨H03, A3⟩ := asked W6 hvi6
    refine ⟨_, rfl, x, dx3, fs3, rfl, hx3, no3 _ (by decide +kernel), _, rfl, _, rfl, _, rfl, H03, x, vi, c, os, n, its, r, b, rfl, A3, by0.1, by0.2, fun _ t3 vh H14 ms s14 ht3 hvh HO => ?_, fun h => absurd iti h⟩
    have W7 := W6.more s14
    have hvi7 := hvi6.same s14
    refine ⟨t3, _, rfl, SqT.of ht3, rfl, _, _, rfl, _, _, rfl, rfl, ?_⟩
    obtain ⟨xs7, hlh7, hxs7⟩ := W7.held
    refine ⟨_, rfl, _, rfl, _, rfl, _, rfl, _, rfl, _, rfl, vc, vi, lh, xs7, c, os, its, r, b, rfl, W7.cat, LC.ok, SqL.of hlh7, hxs7, by omega, O.ok, by omega, hvi7, itn.2.2.1, rn, fun H15 s15 => ⟨rfl, _, rfl, iteEf (by simp) ?_⟩⟩
    have W8 := W7.more s15
    have hvi8 := hvi7.same s15
    have hvh8 := hvh.same s15
    refine ⟨_, rfl, _, _, _, _, false, rfl, .ty _, .base (.int _), kit_ty (by decide +kernel), _, rfl, iteF ?_⟩
    -- the lot that holds it
    obtain ⟨xs8, hlh8, hxs8⟩ := W8.held
    refine ⟨_, rfl, lh, xs8, os, rfl, SqL.of hlh8, hxs8, by omega, ws3, fun pw yw H16 s16 _ hpw hyw => ?_⟩
    have W9 := W8.more s16
    have hvi9 := hvi8.same s16
    have hvh9 := hvh8.same s16
    have lyw := hyw.length
    rw [List.length_map] at lyw
    refine ⟨pw, rfl, ⟨_, SqL.of hpw⟩, ?_⟩
    have ksm : ∀ f ∈ wishesOf os, Sm (keyD f) 2 := fun f hf => keyD_sm (wok f hf).nn
    have hsm : ∀ z ∈ heldD (wishesOf os) ms, ∃ f ∈ wishesOf os, z = keyD f := fun z hz => by
      unfold heldD at hz
      obtain ⟨u, _, e⟩ := List.mem_filterMap.mp hz
      obtain ⟨f, hf, rfl⟩ := Option.map_eq_some_iff.mp e
      exact ⟨f, List.mem_of_getElem? hf, rfl⟩
    have hsh : SeqAt.shaped (.tuple (heldD (wishesOf os) ms)) = true := (Sm.tup (n := 2) fun z hz => by
      obtain ⟨f, hf, rfl⟩ := hsm z hz
      exact ksm f hf).shaped
    refine lc_gen (walk_list (xs := yw)) (fun i => ((wishesOf os)[i]?).bind fun f => if ((heldD (wishesOf os) ms).any fun z => PyData.eqv z (keyD f)) = true then yw[i]? else none) (by omega) (fun H17 s17 => SqL.of (s17 _ _ hpw)) (fun j y H17 H18 Rn Ry hj s17 hY hn hy => ?_) (fun pl H17 hpl s17 h17 => ?_)
    · obtain ⟨rfl, hz⟩ := hY
      obtain ⟨d, hd1, hd2⟩ := hyw.get' hz
      rw [List.getElem?_map] at hd1
      obtain ⟨f, hf, rfl⟩ := Option.map_eq_some_iff.mp hd1
      obtain ⟨bf, ai, rfl, hb, _⟩ := fw_at (hd2.same s17)
      rw [hf] at hn hy
      have fk := ksm f (List.mem_of_getElem? hf)
      refine ⟨rfl, _, rfl, _, rfl, bf, _, rfl, hb, nw2 (n := 6) rfl (by decide), fun q hq => ?_⟩
      have sq := same_new (o := .tup (cutV [V.str f.n, .int (f.at_ : Nat), ai, .str f.r, .int f.cnt, .int f.by_] none (some 2))) hq
      refine ⟨_, rfl, keyD f, heldD (wishesOf os) ms, .tup (SqT.of upd_same) (.cons (.str _) (.cons (.int _) .nil)), (hvh9.same (s17.trans sq)), fk.shaped, hsh, _, rfl, ?_⟩
      refine ite2 (fun e => ⟨_, rfl, hy _ ?_ _ sq⟩) fun e => hn ?_ _ sq
      · show (if ((heldD (wishesOf os) ms).any fun z => PyData.eqv z (keyD f)) = true then yw[j]? else none) = _
        rw [if_pos e]
        exact hz
      · show (if ((heldD (wishesOf os) ms).any fun z => PyData.eqv z (keyD f)) = true then yw[j]? else none) = _
        rw [if_neg e]
    have hlot := filter_dpG FW.d (fun f => (heldD (wishesOf os) ms).any fun z => PyData.eqv z (keyD f)) (hyw.same s17)
    generalize hacc : ((List.range yw.length).filterMap fun i => ((wishesOf os)[i]?).bind fun f => if ((heldD (wishesOf os) ms).any fun z => PyData.eqv z (keyD f)) = true then yw[i]? else none) = acc at h17 hlot
    have efil : (wishesOf os).filter (fun f => (heldD (wishesOf os) ms).any fun z => PyData.eqv z (keyD f)) = masked (fun u => decide (u ∈ ms)) (wishesOf os) := held_lot wnd _ fun f hf => by
      constructor
      · intro e
        obtain ⟨z, hz, ez⟩ := List.any_eq_true.mp e
        unfold heldD at hz
        obtain ⟨u, hu, e2⟩ := List.mem_filterMap.mp hz
        obtain ⟨f2, hf2, rfl⟩ := Option.map_eq_some_iff.mp e2
        exact ⟨u, f2, hu, hf2, keyD_inj ((eqv_iff (ksm f2 (List.mem_of_getElem? hf2)).1 (ksm f hf).1).mp ez)⟩
      · rintro ⟨u, f2, hu, hf2, ek⟩
        refine List.any_eq_true.mpr ⟨keyD f2, List.mem_filterMap.mpr ⟨u, hu, by rw [hf2]; rfl⟩, (eqv_iff (ksm f2 (List.mem_of_getElem? hf2)).1 (ksm f hf).1).mpr ?_⟩
        have e1 : f2.n = f.n := congrArg Prod.fst ek
        have e2 : f2.at_ = f.at_ := congrArg Prod.snd ek
        unfold keyD
        rw [e1, e2]
    rw [efil] at hlot
    have W10 := W9.more s17
    have hvi10 := hvi9.same s17
    have hvh10 := hvh9.same s17
    have lacc := hlot.length
    rw [List.length_map, held_len HO.nd] at lacc
    have lm : (masked (fun u => decide (u ∈ ms)) (wishesOf os)).length ≤ 8 := Nat.le_trans (lots_sub ((mem_lots _ _).mpr ⟨_, rfl⟩)).2 w8
    obtain ⟨ah, xh, rfl, hSh, hAh⟩ := Dp.tup_inv hvh10
    have lxh := hAh.length
    refine ⟨_, rfl, pl, acc, rfl, .inl (SqL.of h17), _, rfl, ah, xh, rfl, .inr hSh, rfl, _, rfl, iteEf (by rw [lacc, lxh]; simp) ?_⟩
    -- what it leaves
    refine ⟨_, rfl, _, rfl, _, rfl, _, rfl, _, rfl, by show 6 ≤ sizeLine; decide, fun t4 ht4 => ⟨by show 1 ≤ sizeLine; decide, fun t5 ht5 => ?_⟩⟩
    have v4 := same_new (o := .tup [.str "new", .int 0, vi, .str r, .int 0, .int b]) ht4
    have v5 := same_new (o := .lst [.ref t4]) ht5
    have v45 := v4.trans v5
    have lacc8 : acc.length ≤ 8 := by
      rw [lacc, ← held_len HO.nd]
      exact lm
    refine ⟨pl, t5, acc, _, rfl, rfl, v45 _ _ h17, upd_same, Nat.le_trans (by rw [List.length_singleton]; omega : acc.length + [V.ref t4].length ≤ 100) (by decide), fun t6 ht6 => ?_⟩
    have v6' := same_new (o := .lst (acc ++ [.ref t4])) ht6
    have v46 := v45.trans v6'
    refine ⟨vc, t6, _, c, masked (fun u => decide (u ∈ ms)) (wishesOf os) ++ [newF its r b], rfl, (W10.more v46).cat, LC.ok, SqL.of upd_same, ?_, by rw [List.length_append, List.length_singleton]; omega, fun f hf => ?_, fun H18 s18 => ?_⟩
    · rw [List.map_append]
      exact DpAll.append (hlot.same v46) (.cons (.tup (same_t (v5.trans v6') (SqT.of upd_same)) (.cons (.str _) (.cons (.int _) (.cons (hvi10.same v46) (.cons (.str _) (.cons (.int _) (.cons (.int _) .nil))))))) .nil)
    · rcases List.mem_append.mp hf with h | h
      · obtain ⟨i, _, e⟩ := mem_masked.mp h
        exact (wok f (List.mem_of_getElem? e)).nm
      · rw [List.mem_singleton.mp h]
        exact ⟨new_ok, rn, itn.2.2.1⟩
    refine ⟨_, _, rfl, rfl, _, rfl, rfl, _, rfl, iteEf (by show (!decide (V.int (0 - over c (masked (fun u => decide (u ∈ ms)) (wishesOf os) ++ [newF its r b])) = V.int (moreV c (wishesOf os) its r b))) = false; rw [HO.eq]; simp) ?_⟩
    have W11 := W10.more (v46.trans s18)
    have hvi11 := hvi10.same (v46.trans s18)
    -- the days
    have mono : ∀ d : Nat, moreV c (wishesOf os) its r (d : Nat) ≤ moreV c (wishesOf os) its r ((d + 1 : Nat) : Int) := fun d => more_mono LC.ok (by omega)
    have late : ∀ z : Int, 9 ≤ z → moreV c (wishesOf os) its r z = moreV c (wishesOf os) its r 9 := fun z h => more_late LC h
    have nn0 : 0 ≤ moreV c (wishesOf os) its r 0 := more_nn LC.ok O.f 0
    have tw : ((12 : Int)).toNat = 12 := rfl
    refine ⟨_, rfl, by decide, by decide, ?_⟩
    rw [tw]
    refine lc_gen (walk_range (lo := 0) (n := 12)) (fun i => some (.int (moreV c (wishesOf os) its r (i : Nat)))) (by decide) (fun _ _ => True.intro) (fun j y H19 H20 Rn Ry hj s19 hY hn hy => ?_) (fun dl H19 hdl s19 h19 => ?_)
    · obtain ⟨rfl, rfl⟩ := hY
      have ek : ((0 : Int) + (j : Nat)) = ((j : Nat) : Int) := by omega
      show gName 23 (V.int ((0 : Int) + (j : Nat))) _ _ _
      rw [ek]
      have Wj := W11.more s19
      obtain ⟨xsj, hlhj, hxsj⟩ := Wj.held
      exact ⟨rfl, _, rfl, _, rfl, _, rfl, _, rfl, _, rfl, vc, vi, lh, xsj, c, os, its, r, _, rfl, Wj.cat, LC.ok, SqL.of hlhj, hxsj, by omega, O.ok, by omega, hvi11.same s19, itn.2.2.1, rn, fun H21 s21 => hy _ rfl _ s21⟩
    rw [fm_some] at h19
    have W12 := W11.more s19
    have hvi12 := hvi11.same s19
    generalize hf : moreV c (wishesOf os) its r = f at *
    refine ⟨_, rfl, (sa, ns), a, _, rfl, W12.row, by decide, by decide, fun z1 H20 z10 z11 S20 => ?_⟩
    have W13 := W12.stp S20
    have dla : dl ≠ a := by
      obtain ⟨l, hla⟩ := W11.row.isL
      exact (ne_of_none hla hdl).symm
    have hdl13 := S20.at_ dla h19
    have hvi13 := S20.dp (nl_strs _) hvi12
    refine ⟨_, _, rfl, rfl, by show 2 ≤ sizeLine; decide, fun t7 ht7 => ?_⟩
    have v7' := same_new (o := .tup [.ref dl, .int (1 + z1)]) ht7
    refine ⟨t7, _, rfl, SqT.of upd_same, rfl, _, _, rfl, _, _, rfl, rfl, ?_⟩
    have W14 := W13.more v7'
    have hdl14 := v7' _ _ hdl13
    have hvi14 := hvi13.same v7'
    have k1 : 1 ≤ 1 + z1 ∧ 1 + z1 ≤ 999 := by omega
    have dAt : ∀ {d : Nat}, d < 12 → ((List.range 12).map fun i => V.int (f (i : Nat)))[d]? = some (.int (f (d : Nat))) := fun {d} h => by
      rw [List.getElem?_map, List.getElem?_range h]
      rfl
    -- the days that do
    refine ⟨_, rfl, by decide, by decide, ?_⟩
    rw [tw]
    refine lc_gen (walk_range (lo := 0) (n := 12)) (fun i => if decide (1 + z1 ≤ f (i : Nat)) = true then some (.int (i : Nat)) else none) (by decide) (fun _ _ => True.intro) (fun j y H22 H23 Rn Ry hj s22 hY hn hy => ?_) (fun ap H22 hap s22 h22 => ?_)
    · obtain ⟨rfl, rfl⟩ := hY
      have ek : ((0 : Int) + (j : Nat)) = ((j : Nat) : Int) := by omega
      show gName 23 (V.int ((0 : Int) + (j : Nat))) _ _ _
      rw [ek]
      refine ⟨rfl, _, rfl, _, rfl, dl, _, _, _, rfl, rfl, SqL.of (s22 _ _ hdl14), at_of (j := j) rfl (dAt hj), _, rfl, _, _, rfl, rfl, _, rfl, ?_⟩
      refine ite2 (fun e => ⟨_, rfl, hy _ (if_pos e) _ (Same.refl _)⟩) fun e => hn (if_neg e) _ (Same.refl _)
    rw [fm_filter] at h22
    have W15 := W14.more s22
    have hdl15 := s22 _ _ hdl14
    have hvi15 := hvi14.same s22
    have e61 := earliest61 (f := f) (k := 1 + z1) late
    -- earliest
    generalize hday : (List.range 12).filter (fun d : Nat => decide (1 + z1 ≤ f (d : Nat))) = days at h22 e61
    have d12 : days.length ≤ 12 := by
      rw [← hday]
      exact Nat.le_trans (List.length_filter_le _ _) (by decide)
    obtain ⟨dx5, fs5, hx5, no5⟩ := W15.ins
    obtain ⟨H05, A5⟩ := asked W15 hvi15
    refine ⟨fun σ H' => (∃ v5 v6 v7 v8 v10 v11 v13 v14 v20 : Option V, σ = [some (.ref sa), some (.ref a), some vc, some (.ref lh), some (.int (n : Nat)), v5, v6, v7, v8, some (.int (f b)), v10, v11, some (.ref dl), v13, v14, none, none, some (.ref x), some (.int b), some vi, v20, some (.str r), none, none]) ∧ Same H22 H', ?_, ?_⟩
    · refine ⟨_, rfl, x, dx5, fs5, rfl, hx5, no5 _ (by decide +kernel), _, rfl, _, rfl, _, rfl, H05, x, vi, c, os, n, its, r, _, rfl, A5, iti, fun _ => ?_, fun h => absurd k1 h⟩
      rw [hf]
      refine ⟨fun en H23 s23 => ?_, fun d ed H23 s23 => ?_⟩
      · rw [e61] at en
        have dn : days = [] := List.head?_eq_none_iff.mp en
        subst dn
        refine ⟨_, rfl, by show 0 ≤ sizeLine; decide, fun q2 hq2 => ?_⟩
        have tq := same_new (o := .lst []) hq2
        refine ⟨.list [], .list [], .lst (SqL.of (tq _ _ (s23 _ _ h22))) .nil, .lst (SqL.of upd_same) .nil, shE, shE, _, rfl, iteEf (by rw [emp]; rfl) ?_⟩
        exact ⟨rfl, _, rfl, iteEf rfl ⟨⟨_, _, _, _, _, _, _, _, _, rfl⟩, s23.trans tq⟩⟩
      · rw [e61] at ed
        obtain ⟨rest, dn⟩ : ∃ rest, days = d :: rest := by
          cases days with
          | nil => cases ed
          | cons d' rest => cases ed; exact ⟨rest, rfl⟩
        subst dn
        refine ⟨_, rfl, by show 0 ≤ sizeLine; decide, fun q2 hq2 => ?_⟩
        have tq := same_new (o := .lst []) hq2
        refine ⟨.list ((d :: rest).map fun d : Nat => PyData.int (d : Nat)), .list [], .lst (SqL.of (tq _ _ (s23 _ _ h22))) (dp_nats _), .lst (SqL.of upd_same) .nil, (Sm.lst (n := 1) fun z hz => ?_).shaped, shE, _, rfl, iteE (by rw [eqv_nil]; rfl) ?_⟩
        · obtain ⟨u, _, rfl⟩ := List.mem_map.mp hz
          exact Sm.int _
        refine ⟨_, rfl, ap, _, _, .int (d : Nat), rfl, rfl, SqL.of (tq _ _ (s23 _ _ h22)), at_of (j := 0) rfl rfl, ?_⟩
        exact ⟨rfl, _, rfl, iteEf (by simp) ⟨⟨_, _, _, _, _, _, _, _, _, rfl⟩, s23.trans tq⟩⟩
    rintro σ H23 ⟨⟨v5a, v6a, v7, v8, v10, v11, v13, v14, v20, rfl⟩, s23⟩
    have W16 := W15.more s23
    have hdl16 := s23 _ _ hdl15
    have hvi16 := hvi15.same s23
    -- the curve
    have c61 := curve61 (f := f) mono nn0 late
    refine ⟨_, rfl, by decide, by decide, ?_⟩
    rw [tw]
    refine lc_dat (K := K) (walk_range (lo := 0) (n := 12)) (fun i => if prevV f i < f (i : Nat) then some (pD (i, f (i : Nat))) else none) (fun j d _ e => ?_) (by decide) (fun _ _ => True.intro) (fun j y H24 H25 Rn Ry hj s24 hY hn hy => ?_) (fun cp ca H24 hcp s24 h24 h24d => ?_)
    · split at e
      · cases e
        rfl
      · cases e
    · obtain ⟨rfl, rfl⟩ := hY
      have ek : ((0 : Int) + (j : Nat)) = ((j : Nat) : Int) := by omega
      show gName 23 (V.int ((0 : Int) + (j : Nat))) _ _ _
      rw [ek]
      have hdlj := s24 _ _ hdl16
      have fin : ∀ {Q' : Bool → Hp → Prop}, True := fun {_} => True.intro
      refine ⟨rfl, _, rfl, _, rfl, dl, _, _, _, rfl, rfl, SqL.of hdlj, at_of (j := j) rfl (dAt hj), ?_⟩
      by_cases h0 : 0 < j
      · have ep : prevV f j = f ((j - 1 : Nat) : Int) := by
          unfold prevV
          rw [if_pos h0]
          congr 1
          omega
        refine ⟨_, rfl, _, _, rfl, rfl, _, rfl, iteD (by omega) ?_⟩
        refine ⟨_, rfl, _, rfl, _, _, rfl, rfl, dl, _, _, _, rfl, rfl, SqL.of hdlj, at_of (j := j - 1) (by omega) (dAt (by omega)), ?_⟩
        refine ⟨_, _, rfl, rfl, _, rfl, ite2 (fun e => ?_) fun e => ?_⟩
        · have e := of_decide_eq_true e
          refine ⟨_, rfl, _, rfl, _, rfl, dl, _, _, _, rfl, rfl, SqL.of hdlj, at_of (j := j) rfl (dAt hj), by show 2 ≤ sizeLine; decide, fun q hq => ?_⟩
          exact hy (pD (j, f (j : Nat))) (if_pos (by rw [ep]; exact e)) _ _ (same_new hq) (.tup (SqT.of upd_same) (.cons (.int _) (.cons (.int _) .nil)))
        · exact hn (if_neg (by rw [ep]; exact fun q => e (decide_eq_true q))) _ (Same.refl _)
      · have ep : prevV f j = 0 := by
          unfold prevV
          rw [if_neg h0]
        refine ⟨_, rfl, _, _, rfl, rfl, _, rfl, iteDn (by omega) ?_⟩
        refine ⟨_, _, rfl, rfl, _, rfl, ite2 (fun e => ?_) fun e => ?_⟩
        · have e := of_decide_eq_true e
          refine ⟨_, rfl, _, rfl, _, rfl, dl, _, _, _, rfl, rfl, SqL.of hdlj, at_of (j := j) rfl (dAt hj), by show 2 ≤ sizeLine; decide, fun q hq => ?_⟩
          exact hy (pD (j, f (j : Nat))) (if_pos (by rw [ep]; exact e)) _ _ (same_new hq) (.tup (SqT.of upd_same) (.cons (.int _) (.cons (.int _) .nil)))
        · exact hn (if_neg (by rw [ep]; exact fun q => e (decide_eq_true q))) _ (Same.refl _)
    have ecd : (List.range 12).filterMap (fun i => if prevV f i < f (i : Nat) then some (pD (i, f (i : Nat))) else none) = (curveV f 61).1.map pD := by
      rw [c61, List.map_filterMap]
      congr 1
      funext i
      split <;> rfl
    rw [ecd] at h24d
    have lcv := curveV_len f 61
    have W17 := W16.more s24
    have hvi17 := hvi16.same s24
    obtain ⟨dx6, fs6, hx6, no6⟩ := W17.ins
    obtain ⟨H06, A6⟩ := asked W17 hvi17
    refine ⟨_, rfl, x, dx6, fs6, rfl, hx6, no6 _ (by decide +kernel), _, rfl, _, rfl, H06, x, vi, c, os, n, its, r, rfl, A6, iti, fun vcv H25 s25 hcv => ?_⟩
    rw [hf] at hcv
    refine ⟨_, rfl, cp, ca, rfl, .inl ⟨SqL.of (s25 _ _ h24), fun tp htp => ?_⟩⟩
    have t8 := same_new (o := .tup ca) htp
    have sm6 : small 6 (.tuple ((curveV f 61).1.map pD)) := ⟨by rw [List.length_map]; omega, fun d hd => by
      obtain ⟨p, _, rfl⟩ := List.mem_map.mp hd
      refine ⟨by show 2 ≤ 100; decide, fun d2 h2 => ?_⟩
      rcases List.mem_cons.mp h2 with rfl | h2
      · exact True.intro
      · rw [List.mem_singleton.mp h2]
        exact True.intro⟩
    refine ⟨vcv, .ref tp, _, rfl, sm6, hcv.same t8, .tup (SqT.of upd_same) (h24d.same (s25.trans t8)), fun H26 s26 => ⟨_, rfl, iteF ?_⟩⟩
    have s246 := (s24.trans s25).trans (t8.trans s26)
    have W18 := W16.more s246
    have hvi18 := hvi16.same s246
    have hdl18 := s246 _ _ hdl16
    -- it does not fall
    have el : ((11 : Int)).toNat = 11 := rfl
    refine ⟨_, rfl, by decide, by decide, ?_⟩
    rw [el]
    refine lc_gen (walk_range (lo := 0) (n := 11)) (fun _ => none) (by decide) (fun _ _ => True.intro) (fun j y H27 H28 Rn Ry hj s27 hY hn hy => ?_) (fun fp H27 hfp s27 h27 => ?_)
    · obtain ⟨rfl, rfl⟩ := hY
      have ek : ((0 : Int) + (j : Nat)) = ((j : Nat) : Int) := by omega
      show gName 23 (V.int ((0 : Int) + (j : Nat))) _ _ _
      rw [ek]
      have hdlj := s27 _ _ hdl18
      have m := mono j
      refine ⟨rfl, _, rfl, _, rfl, dl, _, _, _, rfl, rfl, SqL.of hdlj, at_of (j := j) rfl (dAt (by omega)), _, rfl, _, rfl, _, _, rfl, rfl, dl, _, _, _, rfl, rfl, SqL.of hdlj, at_of (j := j + 1) (by omega) (dAt (by omega)), ?_⟩
      exact ⟨_, _, rfl, rfl, _, rfl, iteDn (by omega) (hn rfl _ (Same.refl _))⟩
    rw [nones] at h27
    refine ⟨by show 0 ≤ sizeLine; decide, fun q3 hq3 => ?_⟩
    have t9 := same_new (o := .lst []) hq3
    refine ⟨.list [], .list [], .lst (SqL.of (t9 _ _ h27)) .nil, .lst (SqL.of upd_same) .nil, shE, shE, _, rfl, iteEf (by rw [emp]; rfl) ?_⟩
    have W19 := W18.more (s27.trans t9)
    have hvi19 := hvi18.same (s27.trans t9)
    -- the last of it
    have xn : ("x" : Str) ∉ os.map Order.n := fun h => by
      obtain ⟨o1, h1, e1⟩ := List.mem_map.mp h
      have q : ("x" : Str) ∉ ABCD := by decide +kernel
      exact q (e1 ▸ O.nm o1 h1)
    have nn : ("none" : Str) ∉ os.map Order.n := fun h => by
      obtain ⟨o1, h1, e1⟩ := List.mem_map.mp h
      have q : ("none" : Str) ∉ ABCD := by decide +kernel
      exact q (e1 ▸ O.nm o1 h1)
    refine ⟨fun σ H' => ∃ (os' : List Order) (v5 v6 v7 v8 v10 v11 v13 v14 v15 v20 : Option V), σ = [some (.ref sa), some (.ref a), some vc, some (.ref lh), some (.int (n : Nat)), v5, v6, v7, v8, some (.int (f b)), v10, v11, some (.ref dl), v13, v14, v15, none, some (.ref x), some (.int b), some vi, v20, some (.str r), none, none] ∧
      LW K (sa, ns) a x c os' n (some (lh, os)) vc (lawT Pc) H' ∧ Dp K H' vi (strsD its) ∧ os'.length ≤ 5 ∧ (∀ o ∈ os', o.Ok c) ∧ FeasO c os' ∧ ("none" : Str) ∉ os'.map Order.n, ?_, ?_⟩
    · refine ⟨_, rfl, _, _, rfl, rfl, _, rfl, ite2 (fun e1 => ⟨_, _, rfl, rfl, _, rfl, ite2 (fun e2 => ?_) fun _ => ⟨os, _, _, _, _, _, _, _, _, _, _, rfl, W19, hvi19, by omega, O.ok, O.feas, nn⟩⟩) fun _ => ⟨_, rfl, iteF ⟨os, _, _, _, _, _, _, _, _, _, _, rfl, W19, hvi19, by omega, O.ok, O.feas, nn⟩⟩⟩
      have e1 := of_decide_eq_true e1
      have e2 := of_decide_eq_true e2
      refine ⟨_, rfl, _, rfl, _, rfl, by show 2 ≤ sizeLine; decide, fun i1 hi1 => ⟨by show 1 ≤ sizeLine; decide, fun i2 hi2 => ⟨_, rfl, by show 5 ≤ sizeLine; decide, fun i3 hi3 => ?_⟩⟩⟩
      have j1 := same_new (o := .tup [vi, .int (f b)]) hi1
      have j2 := same_new (o := .tup [.ref i1]) hi2
      have j3 := same_new (o := .tup [.str "x", .str r, .ref i2, .int b, .int 1]) hi3
      have j23 := j2.trans j3
      have j13 := j1.trans j23
      let ox : Order := ⟨"x", r, [⟨its, f b⟩], b, 1⟩
      have WX := W19.more j13
      have hvX := hvi19.same j13
      have hox : Dp K _ (.ref i3) ox.d := .tup (SqT.of upd_same) (.cons (.str _) (.cons (.str _) (.cons (.tup (same_t j3 (SqT.of upd_same)) (.cons (.tup (same_t j23 (SqT.of upd_same)) (.cons hvX (.cons (.int _) .nil))) .nil)) (.cons (.int _) (.cons (.int _) .nil)))))
      have oxok : ox.Ok c := ⟨(by decide +kernel : nameOk "x" = true), rn, rin, ⟨Nat.le_refl _, (by decide : 1 ≤ 3)⟩, fun w hw => by
        rw [List.mem_singleton.mp hw]
        exact ⟨itn, iti, (by omega : 1 ≤ f b), (by omega : f b ≤ 99)⟩, by0, (by decide : (0 : Int) ≤ 1), (by decide : (1 : Int) ≤ 999)⟩
      have ewx : wishesOf (os ++ [ox]) = wishesOf os ++ [⟨"x", 0, its, r, f b, b⟩] := by
        rw [wishesOf_snoc]
        rfl
      obtain ⟨FX, zX⟩ := HO.nx ⟨"x", 0, its, r, f b, b⟩ rfl rfl rfl (by show f b = moreV c (wishesOf os) its r b; rw [hf])
      have FX : FeasO c (os ++ [ox]) := by
        unfold FeasO
        rw [ewx]
        exact FX
      have okX : ∀ z ∈ os ++ [ox], z.Ok c := fun z hz => (List.mem_append.mp hz).elim (O.ok z) fun hz => by rw [List.mem_singleton.mp hz]; exact oxok
      have nnX : ("none" : Str) ∉ (os ++ [ox]).map Order.n := fun h => by
        rw [List.map_append] at h
        rcases List.mem_append.mp h with h | h
        · exact nn h
        · have q := List.mem_singleton.mp h
          exact absurd q (by decide +kernel : ¬ ("none" : Str) = "x")
      have lX : (os ++ [ox]).length ≤ 5 := by
        rw [List.length_append, List.length_singleton]
        omega
      obtain ⟨dxX, fsX, hxX, noX⟩ := WX.ins
      obtain ⟨H0X, BX, back, tO⟩ := WX.open_
      refine ⟨_, rfl, x, dxX, fsX, rfl, hxX, noX _ (by decide +kernel), _, rfl, H0X, x, _, c, os, n, rfl, BX, LC.ok, by omega, by omega, O.ok, .inr (.inr ⟨ox, hox, oxok, xn, fun _ H28 B28 => ?_, fun nF => absurd FX nF⟩)⟩
      have WY := back _ _ _ B28
      have hvY : Dp K H28 vi (strsD its) := dp_keep (fun t xs q => tO t xs _ B28.same q) (nl_strs _) hvX
      refine ⟨true, true, rfl, rfl, _, rfl, iteEf rfl ?_⟩
      obtain ⟨dxY, fsY, hxY, noY⟩ := WY.ins
      obtain ⟨H0Y, BY⟩ := WY.b
      refine ⟨_, rfl, x, dxY, fsY, rfl, hxY, noY _ (by decide +kernel), _, rfl, _, rfl, _, rfl, H0Y, x, vi, c, os ++ [ox], n, its, r, b, rfl, ⟨BY, LC.ok, by omega, okX, FX, hvY, itn, rn, rin⟩, by0.1, by0.2, fun _ tY vY H29 msY s29 htY _ _ => ?_, fun h => absurd iti h⟩
      refine ⟨tY, _, _, _, rfl, rfl, SqT.of htY, rfl, rfl, _, rfl, iteEf (by rw [ewx, zX]; simp) ?_⟩
      exact ⟨os ++ [ox], _, _, _, _, _, _, _, _, _, _, rfl, WY.more s29, hvY.same s29, lX, okX, FX, nnX⟩
    rintro σ H30 ⟨os', v5b, v6b, v7b, v8b, v10b, v11b, v13b, v14b, v15b, v20b, rfl, W, hv, l5, ok', F', nn'⟩
    have fsF : ∀ {H' : Hp} {i : Addr}, True := fun {_ _} => True.intro
    -- cancel "none"
    refine ⟨W.tabs, fun H31 eN T31 => ?_⟩
    have WA := W.extN eN T31
    have kp1 : ∀ t xs, SqT K H30 t xs → SqT K H31 t xs := fun t xs q => by
      obtain ⟨l, hl⟩ := W.row.isL
      exact Kpt.t (a := a) (fun q o e _ nt => eN _ _ e nt) hl q
    have hvA : Dp K H31 vi (strsD its) := dp_keep kp1 (nl_strs _) hv
    obtain ⟨dxA, fsA, hxA, noA⟩ := WA.ins
    obtain ⟨H0A, BA⟩ := WA.b
    refine ⟨_, rfl, x, dxA, fsA, rfl, hxA, noA _ (by decide +kernel), H0A, x, c, os', n, "none", rfl, BA, by omega, fun _ H32 s32 => ?_, fun h => absurd h nn'⟩
    refine ⟨false, T.exm ("BadName", "BadItem", false) (by decide +kernel), fun e => (by cases e), fun _ => ⟨true, T.exm ("BadName", "BadName", true) (by decide +kernel), fun _ => ?_, fun e => (by cases e)⟩⟩
    have WB := WA.more s32
    have hvB := hvA.same s32
    -- most of none
    refine ⟨WB.tabs, fun H33 eN2 T33 => ?_⟩
    have WC := WB.extN eN2 T33
    have kp2 : ∀ t xs, SqT K H32 t xs → SqT K H33 t xs := fun t xs q => by
      obtain ⟨l, hl⟩ := WB.row.isL
      exact Kpt.t (a := a) (fun q o e _ nt => eN2 _ _ e nt) hl q
    have hvC : Dp K H33 vi (strsD its) := dp_keep kp2 (nl_strs _) hvB
    obtain ⟨dxC, fsC, hxC, noC⟩ := WC.ins
    refine ⟨_, rfl, x, dxC, fsC, rfl, hxC, noC _ (by decide +kernel), by show 1 ≤ sizeLine; decide, fun tn htn => ?_⟩
    have sn := same_new (o := .tup [.str "none"]) htn
    have WD := WC.more sn
    obtain ⟨H0D, BD⟩ := WD.b
    have noneI : ¬ ∀ s ∈ (["none"] : List Str), s ∈ c.its := fun h => by
      have q : ("none" : Str) ∉ ITS := by decide +kernel
      exact q (LC.its _ (h "none" List.mem_cons_self))
    have noneN : namesOk (["none"] : List Str) 3 := by
      unfold namesOk
      decide +kernel
    refine ⟨_, rfl, _, rfl, H0D, x, .ref tn, c, os', n, ["none"], r, b, rfl, ⟨BD, LC.ok, by omega, ok', F', .tup (SqT.of upd_same) (.cons (.str _) .nil), noneN, rn, rin⟩, by0.1, by0.2, fun h => absurd h noneI, fun _ H34 s34 => ?_⟩
    refine ⟨true, T.exm ("BadItem", "BadItem", true) (by decide +kernel), fun _ => ?_, fun e => (by cases e)⟩
    have WE := WD.more s34
    have hvE := hvC.same (sn.trans s34)
    refine ⟨by show 2 ≤ sizeLine; decide, fun w1 hw1 => ?_⟩
    have sw := same_new (o := .lst [.str "name", .str "item"]) hw1
    have WF := WE.more sw
    have hvF := hvE.same sw
    have hw1F : upd H34 w1 (.lst [.str "name", .str "item"]) w1 = some (.lst [.str "name", .str "item"]) := upd_same
    generalize upd H34 w1 (.lst [.str "name", .str "item"]) = H35 at WF hvF hw1F ⊢
    -- earliest of 0
    refine ⟨_, rfl, WF.tabs, fun H36 eN3 T36 => ?_⟩
    have WG := WF.extN eN3 T36
    have kp3 : ∀ t xs, SqT K H35 t xs → SqT K H36 t xs := fun t xs q => by
      obtain ⟨l, hl⟩ := WF.row.isL
      exact Kpt.t (a := a) (fun q o e _ nt => eN3 _ _ e nt) hl q
    have hvG : Dp K H36 vi (strsD its) := dp_keep kp3 (nl_strs _) hvF
    have hw1G := eN3 _ _ hw1F (fun _ z => by cases z)
    obtain ⟨dxG, fsG, hxG, noG⟩ := WG.ins
    obtain ⟨H0G, BG⟩ := WG.b
    refine ⟨_, rfl, x, dxG, fsG, rfl, hxG, noG _ (by decide +kernel), _, rfl, _, rfl, H0G, x, vi, c, os', n, its, r, 0, rfl, ⟨BG, LC.ok, by omega, ok', F', hvG, itn, rn, rin⟩, iti, fun h => absurd h (by omega), fun _ H37 s37 => ?_⟩
    refine ⟨false, T.exm ("BadNumber", "BadItem", false) (by decide +kernel), fun e => (by cases e), fun _ => ⟨false, T.exm ("BadNumber", "BadName", false) (by decide +kernel), fun e => (by cases e), fun _ => ⟨true, T.exm ("BadNumber", "BadNumber", true) (by decide +kernel), fun _ => ?_, fun e => (by cases e)⟩⟩⟩
    have WH := WG.more s37
    have hw1H := s37 _ _ hw1G
    -- ask of 1
    refine ⟨WH.tabs, fun H38 eN4 T38 => ?_⟩
    have WI := WH.extN eN4 T38
    have hw1I := eN4 _ _ hw1H (fun _ z => by cases z)
    obtain ⟨dxI, fsI, hxI, noI⟩ := WI.ins
    obtain ⟨H0I, BI⟩ := WI.b
    refine ⟨_, rfl, x, dxI, fsI, rfl, hxI, noI _ (by decide +kernel), H0I, x, .int 1, c, os', n, rfl, BI, LC.ok, by omega, by omega, ok', .inl ⟨1, rfl, fun H39 s39 => ?_⟩⟩
    refine ⟨false, T.exm ("BadOrder", "BadItem", false) (by decide +kernel), fun e => (by cases e), fun _ => ⟨false, T.exm ("BadOrder", "BadName", false) (by decide +kernel), fun e => (by cases e), fun _ => ⟨false, T.exm ("BadOrder", "BadNumber", false) (by decide +kernel), fun e => (by cases e), fun _ => ⟨true, T.exm ("BadOrder", "BadOrder", true) (by decide +kernel), fun _ => ?_, fun e => (by cases e)⟩⟩⟩⟩
    have hw1J := s39 _ _ hw1I
    refine ⟨by show 2 ≤ sizeLine; decide, fun w2 hw2 => ?_⟩
    have sw2 := same_new (o := .lst [.str "number", .str "order"]) hw2
    refine ⟨w1, w2, _, _, rfl, rfl, sw2 _ _ hw1J, upd_same, by show 4 ≤ sizeLine; decide, fun w3 hw3 => ?_⟩
    refine ⟨_, rfl, by show 4 ≤ sizeLine; decide, fun w4 hw4 => ?_⟩
    have sw4 := same_new (o := .lst [.str "name", .str "item", .str "number", .str "order"]) hw4
    have smW : Sm (.list [.str "name", .str "item", .str "number", .str "order"]) 2 := Sm.lst (Sm.cons (Sm.str (by decide +kernel)) (Sm.cons (Sm.str (by decide +kernel)) (Sm.cons (Sm.str (by decide +kernel)) (Sm.cons (Sm.str (by decide +kernel)) Sm.nil))))
    refine ⟨.list [.str "name", .str "item", .str "number", .str "order"], .list [.str "name", .str "item", .str "number", .str "order"], .lst (SqL.of (sw4 _ _ upd_same)) (.cons (.str _) (.cons (.str _) (.cons (.str _) (.cons (.str _) .nil)))), .lst (SqL.of upd_same) (.cons (.str _) (.cons (.str _) (.cons (.str _) (.cons (.str _) .nil)))), smW.shaped, smW.shaped, ?_⟩
    rw [(eqv_iff smW.1 smW.1).mpr rfl]
    exact kQ _
end
end KS
set_option Elab.async false
set_option linter.all false
set_option maxRecDepth 100000
set_option maxHeartbeats 0
/-! The head: the top's run in the kernel, with the facts Tx. -/
namespace KS
open PySem PySem.Spec PyProof.Rows L2
open He (Fa DefD)
/-! ### the facts -/
def faL : List Fa := (globs.map fun p => Fa.glo p.1) ++ (frees.map Fa.free) ++ (cInts.map fun p => Fa.int p.1 p.2) ++ (cStrs.map fun p => Fa.str p.1 p.2) ++ [.glo "Giving", .glo "Book", .cls "Giving", .cls "Book", .mkr "Giving", .mkr "Book"] ++ (gmeths.map fun p => Fa.meth "Giving" p.1) ++ (bmeths.map fun p => Fa.meth "Book" p.1)
  ++ (gattrs.map (Fa.noat "Giving")) ++ (battrs.map (Fa.noat "Book")) ++ (excs.map Fa.glo) ++ (excs.map Fa.exc) ++ (exms.map fun p => Fa.exm p.1 p.2.1 p.2.2)
def dG (p : Str × Nat) : DefD := ⟨(p.1, none), p.1, p.1, defArgs (tp p.2), defBody (tp p.2), defScope (tp p.2), [], []⟩
def dM (p : Str × Str × Nat) : DefD := ⟨("Giving", some p.1), p.1, p.2.1, defArgs (gv p.2.2), defBody (gv p.2.2), defScope (gv p.2.2), [], []⟩
def dB (p : Str × Str × Nat) : DefD := ⟨("Book", some p.1), p.1, p.2.1, defArgs (bk p.2.2), defBody (bk p.2.2), defScope (bk p.2.2), [], []⟩
def fnL : List DefD := globs.map dG ++ gmeths.map dM ++ bmeths.map dB
/-- a property's getter -/
def gtr (K : PySem.W.Frag) (f : Str) : Addr := match PySem.W.recIn K (He.ma K (cB K) f) "property" with
  | some (.ref g :: _) => g
  | _ => 0
def propB (K : PySem.W.Frag) (f : Str) : Bool := He.eqO (PySem.W.findIn K (.ref (cB K)) f) (some (some (.ref (He.ma K (cB K) f)))) && (He.eqO (PySem.W.specialIn K (.ref (He.ma K (cB K) f)) "__get__") (some (some (.builtin "property.__get__"))) &&
  (decide (PySem.W.takesIn K (.ref (He.ma K (cB K) f)) = some true) && (match PySem.W.recIn K (He.ma K (cB K) f) "property" with
  | some (.ref _ :: _) => true
  | _ => false)))
theorem propB_ok {K : PySem.W.Frag} {f : Str} (h : propB K f = true) : PropOf K (cB K) f (He.ma K (cB K) f) (gtr K f) := by
  obtain ⟨h1, h⟩ := He.ba h
  obtain ⟨h2, h⟩ := He.ba h
  obtain ⟨h3, h4⟩ := He.ba h
  refine ⟨He.eqO_ok h1, He.eqO_ok h2, of_decide_eq_true h3, ?_⟩
  unfold gtr
  split at h4
  · rename_i g r e
    rw [e]
    exact ⟨r, rfl⟩
  · cases h4
def okAt (K : PySem.W.Frag) (a : Addr) (d : DefD) : Bool := PySem.W.keepIn K (.ref a) && (match K.lookup a with
  | some ⟨_, _, .func fd, _⟩ => PySem.W.codeIn K fd.code d.qual && (He.dflB K fd.defaults (d.dvs K) && He.kwdB K fd.kwdefaults (d.kws K))
  | _ => false)
def fnAt (K : PySem.W.Frag) (a : Addr) : He.FnW := match K.lookup a with
  | some ⟨_, _, .func fd, _⟩ => some (fd.name, fd.qualname, fd.params, fd.body, fd.scope, fd.globals, fd.closure, fd.builtins)
  | _ => none
theorem funD_at {K : PySem.W.Frag} {a : Addr} {d : DefD} (e : fnAt K a = d.val) (c : okAt K a d = true) : ∃ fd, FunD K d.name d.qual d.params d.body d.scope (d.dvs K) (d.kws K) a fd := by
  obtain ⟨kp, c2⟩ := He.ba c
  unfold fnAt at e
  cases q : K.lookup a with
  | none =>
    rw [q] at c2
    cases c2
  | some o =>
    obtain ⟨oc, od, dt, osl⟩ := o
    rw [q] at c2 e
    cases dt with
    | func fd =>
      obtain ⟨n1, n2, n3, n4, n5, n6, n7, n8, n9, n10, n11, n12, n13, n14, n15⟩ := fd
      have e2 : (some (n1, n2, n3, n4, n5, n6, n7, n15) : He.FnW) = some (d.name, d.qual, d.params, .stmts d.body, d.scope, mainGlobals, [], builtinsNs) := e
      simp only [Option.some.injEq, Prod.mk.injEq] at e2
      obtain ⟨h1, h2, h3, h4, h5, h6, h7, h8⟩ := e2
      subst h1 h2 h3 h4 h5 h6 h7 h8
      have c3 : (PySem.W.codeIn K n13 d.qual && (He.dflB K n8 (d.dvs K) && He.kwdB K n9 (d.kws K))) = true := c2
      obtain ⟨k1, k2⟩ := He.ba c3
      obtain ⟨k3, k4⟩ := He.ba k2
      exact ⟨_, ⟨oc, od, n8, n9, n10, n11, n12, n13, n14, osl, rfl, q, k1, He.dflB_ok k3, He.kwdB_ok k4⟩, kp⟩
    | _ => cases c2
def exB (K : PySem.W.Frag) : Bool := bprops.all fun p => propB K p.1 && okAt K (gtr K p.1) (dB p)
def tfL : List He.Defn := [("law", none)]
def dep : Nat := 7
abbrev AlY : Type := He.AlX × List He.FnW
def fr (g : Addr → Option Obj) : PySem.W.Frag := He.frT g (He.asD g dep)
def obsY (g : Addr → Option Obj) : AlY := (He.obsX dep faL fnL [] tfL exB g, bprops.map fun p => fnAt (fr g) (gtr (fr g) p.1))
structure SaysY (w : World) (h : Heap) (K : PySem.W.Frag) : Prop where
  x : He.SaysX faL fnL [] tfL exB w h K
  g : bprops.map (fun p => fnAt K (gtr K p.1)) = bprops.map fun p => (dB p).val
def hookY : PySem.W.Hook where
  α := AlY
  obs := fun s => obsY s.heap.get?
  val := fun w => (He.valX fnL [] w, bprops.map fun p => (dB p).val)
  says := fun w h => ∃ K : PySem.W.Frag, K.In h ∧ SaysY w h K
  of := fun _ _ e => ⟨_, He.frT_in, He.saysX_of (congrArg (fun z : AlY => z.1) e), congrArg (fun z : AlY => z.2) e⟩
  keeps := fun _ _ _ ⟨K, hK, c⟩ k => ⟨K, PySem.W.Frag.In.keeps hK k, ⟨c.x.t, c.x.more, c.x.hd, c.x.out, fun p hp => k _ _ (c.x.empty p hp)⟩, c.g⟩
theorem obsY_eq {g : Addr → Option Obj} {s : Shared} (h : ∀ a, g a = s.heap.get? a) : obsY g = hookY.obs s := by
  have e : g = s.heap.get? := funext h
  rw [e] <;> rfl
abbrev R : PySem.W.OpenRow := PySem.W.OpenLaw.row PySem.Challenge.rw_surehouse_k02_whole_books
def ob (s : PySem.W.SharedT) : AlY := obsY (HandSHeadRun.getT s)
theorem ob_eq (s : PySem.W.SharedT) : ob s = hookY.obs s.abs := obsY_eq (HandSHeadRun.getT_eq s)
def loose1 : List Str := ["__name__", "ShopError", "BadCatalog", "BadOrder", "BadNumber", "BadItem", "BadName", "SMALL", "FIGURES", "MOST_PLACES", "MOST_LANES", "MOST_SUPPLIES", "MOST_WISHES", "LAST_DAY", "REGIONS", "ITEMS", "LANES", "SUPPLIES"]
def loose2 : List Str := ["is_whole", "is_name", "are_unlike", "are_names", "are_rows", "is_lane", "is_supply", "is_catalog", "need_catalog", "is_wish", "is_order", "need_order", "lane_of", "serves", "servers", "need_asked", "need_day"]
def loose3 : List Str := ["Giving", "given_all", "MOST_ORDERS", "PLAN", "CUT", "wishes_of", "ables_of", "rooms_of", "told_of", "kept", "Book"]
def loose4 : List Str := ["_law_taken", "_law_pick", "_law_alike", "_law_is", "_law_catalog", "_law_order", "_law_wishes", "_law_fits", "_law_over", "_law_lots", "_law_able", "_law_plan", "_law_more", "_law_told"]
def looseL : List Str := loose1 ++ loose2 ++ loose3 ++ loose4
def qv : Program := PySem.W.view R.prog [65]
theorem run (w : World) : HandSHeadRun.RunEq R qv hookY ob 6000 looseL w := by
  intro os
  kernel_rfl
end KS
set_option Elab.async false
set_option linter.all false
set_option maxRecDepth 100000
set_option maxHeartbeats 4000000
/-! The facts out of the head; the end from the law's promise. -/
namespace KS
open PySem PySem.Spec PyProof.Rows L2
open He (Fa DefD)
theorem tx_of {K : PySem.W.Frag} {mg : Str → Option Value} {w : World} {h : Heap} (X : K.In h) (G : h.Ns mainGlobals mg) (S : SaysY w h K) : Tx K mg := by
  have c : He.SaysD faL fnL K := congrArg (fun z : He.AlT => z.1) S.x.t
  have fac : ∀ {f : Fa}, f ∈ faL → f.ok K = true := fun hf => He.SaysD.facts c hf
  have glo : ∀ {x : Str}, Fa.glo x ∈ faL → mg x = some (.ref (He.ga K x)) := fun hx => He.glo_ok X G (fac hx)
  have inl : ∀ {l1 l2 : List Fa} {f : Fa}, f ∈ l1 → f ∈ l1 ++ l2 := fun q => List.mem_append.mpr (.inl q)
  have inr : ∀ {l1 l2 : List Fa} {f : Fa}, f ∈ l2 → f ∈ l1 ++ l2 := fun q => List.mem_append.mpr (.inr q)
  have ex := S.x.more
  refine ⟨fun p hp => ?_, fun p hp => ?_, fun p hp => ?_, fun p hp => ?_, fun x hx => ?_, fun p hp => ?_, fun p hp => ?_, ?_, ?_, ?_, ?_, fun f hf => ?_, fun f hf => ?_, ?_, ?_, fun x hx => ?_, fun p hp => ?_⟩
  · obtain ⟨fd, F⟩ := He.SaysD.defs c (d := dG p) (List.mem_append.mpr (.inl (List.mem_append.mpr (.inl (List.mem_map.mpr ⟨p, hp, rfl⟩)))))
    exact ⟨fd, F, glo (inl (inl (inl (inl (inl (inl (inl (inl (inl (inl (inl (List.mem_map.mpr ⟨p, hp, rfl⟩))))))))))))⟩
  · obtain ⟨fd, F⟩ := He.SaysD.defs c (d := dM p) (List.mem_append.mpr (.inl (List.mem_append.mpr (.inr (List.mem_map.mpr ⟨p, hp, rfl⟩)))))
    exact ⟨fd, F, He.meth_ok (fac (f := .meth "Giving" p.1) (inl (inl (inl (inl (inl (inl (inr (List.mem_map.mpr ⟨p, hp, rfl⟩)))))))))⟩
  · obtain ⟨fd, F⟩ := He.SaysD.defs c (d := dB p) (List.mem_append.mpr (.inr (List.mem_map.mpr ⟨p, hp, rfl⟩)))
    exact ⟨fd, F, He.meth_ok (fac (f := .meth "Book" p.1) (inl (inl (inl (inl (inl (inr (List.mem_map.mpr ⟨p, hp, rfl⟩))))))))⟩
  · obtain ⟨h1, h2⟩ := He.ba (List.all_eq_true.mp ex p hp)
    obtain ⟨fd, F⟩ := funD_at (List.map_inj_left.mp S.g p hp) h2
    exact ⟨gtr K p.1, fd, F, propB_ok h1⟩
  · exact He.free_ok X G (fac (f := .free x) (inl (inl (inl (inl (inl (inl (inl (inl (inl (inl (inr (List.mem_map.mpr ⟨x, hx, rfl⟩)))))))))))))
  · exact He.int_ok X G (fac (f := .int p.1 p.2) (inl (inl (inl (inl (inl (inl (inl (inl (inl (inr (List.mem_map.mpr ⟨p, hp, rfl⟩))))))))))))
  · exact He.str_ok X G (fac (f := .str p.1 p.2) (inl (inl (inl (inl (inl (inl (inl (inl (inr (List.mem_map.mpr ⟨p, hp, rfl⟩)))))))))))
  · exact He.cls_ok (fac (f := .cls "Giving") (inl (inl (inl (inl (inl (inl (inl (inr (by simp))))))))))
  · exact He.cls_ok (fac (f := .cls "Book") (inl (inl (inl (inl (inl (inl (inl (inr (by simp))))))))))
  · exact He.mkr_ok (fac (f := .mkr "Giving") (inl (inl (inl (inl (inl (inl (inl (inr (by simp))))))))))
  · exact He.mkr_ok (fac (f := .mkr "Book") (inl (inl (inl (inl (inl (inl (inl (inr (by simp))))))))))
  · exact He.noat_ok (fac (f := .noat "Giving" f) (inl (inl (inl (inl (inr (List.mem_map.mpr ⟨f, hf, rfl⟩)))))))
  · exact He.noat_ok (fac (f := .noat "Book" f) (inl (inl (inl (inr (List.mem_map.mpr ⟨f, hf, rfl⟩))))))
  · exact glo (inl (inl (inl (inl (inl (inl (inl (inr (by simp)))))))))
  · exact glo (inl (inl (inl (inl (inl (inl (inl (inr (by simp)))))))))
  · exact ⟨glo (inl (inl (inr (List.mem_map.mpr ⟨x, hx, rfl⟩)))), He.exc_ok (fac (f := .exc x) (inl (inr (List.mem_map.mpr ⟨x, hx, rfl⟩))))⟩
  · exact He.exm_ok (fac (f := .exm p.1 p.2.1 p.2.2) (inr (List.mem_map.mpr ⟨p, hp, rfl⟩)))
theorem FnS.same {K : PySem.W.Frag} {x q : Str} {st : Stmt} {f : Addr} {fd fd' : FuncData} (F : FnS K x q st f fd) (F' : FnS K x q st f fd') : fd = fd' := by
  obtain ⟨_, _, _, _, _, _, _, _, _, _, _, l, _⟩ := F.ex
  obtain ⟨_, _, _, _, _, _, _, _, _, _, _, l', _⟩ := F'.ex
  rw [l] at l'
  cases l'
  rfl
/-- the law's promise: the script at a, of at most 63 ints; P: the table of its code object, empty -/
def spLaw (K : PySem.W.Frag) (P : Addr) : Sp := fun vs H Q _ => ∃ (a : Addr) (ns : List Int), vs = [.ref a] ∧ SqL K H a (ns.map V.int) ∧ ns.length ≤ 63 ∧ H P = some (.tbl #[]) ∧ ∀ H', Q (.bl true) H'
/-- the law's code object, its table -/
def lawC (K : PySem.W.Frag) : Addr := (He.cT K ("law", none)).1
def lawP (K : PySem.W.Frag) : Addr := (He.cT K ("law", none)).2
theorem holds_of (hL : ∀ (w : World) (K : PySem.W.Frag) (mg : Str → Option Value) (base : Heap), Tx K mg → LamX.TabB base mg (lawC K) (lawP K) → ∃ fd, FnS K "law" "law" (tp 65) (He.ga K "law") fd ∧
      FnOk PySem.Challenge.pw_surehouse_k02_whole_books w K mg base CX0 100 (He.ga K "law") fd ["_law_script"] (spLaw K (lawP K))) : PySem.Challenge.rw_surehouse_k02_whole_books.Holds := by
  w_on; o_law
  refine HandSHeadRun.head_any (r := R) (q := qv) (H := hookY) (ob := ob) (M := 6000) (loose := looseL) (d := HandSHeadRun.topDef R.prog 65) (kwd := []) ob_eq
    (by kernel_rfl) (fun s => by kernel_rfl) run (by kernel_rfl) (by kernel_rfl) (by kernel_rfl) (by rfl) (by first | assumption | decide +kernel) (by decide +kernel) ⟨rfl, rfl, rfl, rfl, rfl, by decide +kernel⟩ ?hw ?hc
  case hw => w_witness2
  case hc =>
    refine LamX.walk_ofTsE (l := PySem.Challenge.rw_surehouse_k02_whole_books) (n := 63) (k := 100) (x := "_law_script") (CX := fun _ => CX0) rfl (by decide) (by kernel_rfl) ⟨rfl, by decide, by decide⟩ ?F (fun _ _ _ _ _ z => z)
    intro w mg fa h Y G hmg0
    obtain ⟨K, KX, S⟩ := Y
    have hmg : mg ("law" : PySem.Str) = some (.ref fa) := by
      have e : (HandSHeadRun.topDef R.prog 65).name = ("law" : PySem.Str) := by kernel_rfl
      rw [← e]
      exact hmg0
    have T := tx_of KX G S
    have hin : (("law", 65) : Str × Nat) ∈ globs := by decide +kernel
    obtain ⟨_, _, hfa⟩ := T.fn _ hin
    have e := hmg.symm.trans hfa
    cases e
    have mem : (("law", none) : He.Defn) ∈ tfL := List.mem_cons_self
    have HD := PySem.W.codeHd_of_K KX (S.x.hd _ mem)
    have q0 : ∃ fd, FnS K "law" "law" (tp 65) (He.ga K "law") fd := let ⟨fd, F, _⟩ := T.fn _ hin; ⟨fd, F⟩
    obtain ⟨fd, F⟩ := q0
    refine ⟨K, KX, fd, [(lawC K, lawP K)], spLaw K (lawP K), ?_, ?_, ?_, ?_, ?_, ?_⟩
    · intro p hp
      rw [List.mem_singleton.mp hp]
      exact S.x.empty _ mem
    · intro p hp
      rw [List.mem_singleton.mp hp]
      exact S.x.out _ mem
    · intro p hp
      rw [List.mem_singleton.mp hp]
      exact HD
    · intro s u
      exact FunD.bindsA (ps := ["_law_script"]) F (fun _ _ _ _ _ _ us hl => match us, hl with | [_], _ => rfl) s [u] rfl
    · intro H a ns hl _ hP hS
      exact ⟨a, ns, rfl, hS, hl, hP _ (List.mem_singleton.mpr rfl), fun _ => rfl⟩
    · intro base hb hn hT
      have T' : Tx K mg := T
      obtain ⟨fd', F', G'⟩ := hL w K mg base T' (hT _ (List.mem_singleton.mpr rfl))
      have e : fd' = fd := FnS.same F' F
      rw [← e]
      exact G'
end KS
set_option Elab.async false
set_option linter.all false
set_option maxRecDepth 100000
set_option maxHeartbeats 8000000
set_option pp.maxSteps 400
/-! The law holds. -/
namespace KS
open PySem PySem.Spec PyProof.Rows L2
theorem all_kept {P : Program} {w : World} {K : PySem.W.Frag} {mg : Str → Option Value} {base : Heap} (T : Tx K mg) : LD P w K mg base := by
  have is_whole := ok_whole (P := P) (w := w) (base := base) T
  have is_name := ok_name (P := P) (w := w) (base := base) T
  have are_unlike := ok_unlike (P := P) (w := w) (base := base) T
  have are_names := ok_names T is_name are_unlike
  have are_rows := ok_rows (P := P) (w := w) (base := base) T
  have is_lane := ok_lane T is_whole is_name
  have is_supply := ok_supply T is_whole is_name
  have is_catalog := ok_catalog T are_names are_rows are_unlike is_lane is_supply
  have need_catalog := ok_needcat T is_catalog
  have is_wish := ok_wish T are_names is_whole
  have is_order := ok_isorder T is_name is_wish is_whole
  have need_order := ok_needorder T is_order
  have need_day := ok_needday T is_whole
  have need_asked := ok_needasked T are_names is_name
  have lane_of := ok_laneof (P := P) (w := w) (base := base) T
  have serves := ok_serves T lane_of
  have servers := ok_servers T serves
  have ways_from := ok_ways (P := P) (w := w) (base := base) T
  have shift := ok_shift (P := P) (w := w) (base := base) T
  have serve := ok_serve T ways_from shift
  have giving := OkI.of (ok_ginit (P := P) (w := w) (base := base) T) T.gMk T.gG
  have given_all := ok_givenall T giving serve
  have wishes_of := ok_wishesof (P := P) (w := w) (base := base) T
  have rooms_of := ok_roomsof (P := P) (w := w) (base := base) T
  have ables_of := ok_ablesof T servers
  have told_of := ok_toldof (P := P) (w := w) (base := base) T
  have kept := ok_kept T wishes_of rooms_of ables_of given_all told_of
  have room_for := ok_roomfor T wishes_of rooms_of ables_of servers given_all serve
  have taken := ok_taken (P := P) (w := w) (base := base) T
  have tk := ok_tk taken
  have pk := ok_pk (ok_pick T taken)
  have wishes := ok_lwishes (P := P) (w := w) (base := base) T
  have fits := ok_lfits (P := P) (w := w) (base := base) T
  have lots := ok_lots (P := P) (w := w) (base := base) T
  have over := ok_lover T fits
  exact {
    law_taken := tk
    law_pick := pk
    law_is := ok_is T
    law_catalog := ok_lcat T tk pk
    law_order := ok_lord T tk pk
    law_wishes := wishes
    law_over := over
    law_able := ok_able T wishes lots over
    law_more := ok_lmore T wishes lots over
    law_plan := ok_plan T wishes fits
    law_alike := ok_alike T 6
    Book := OkI.of (ok_binit T need_catalog) T.bMk T.bG
    orders := ok_orders T
    refusals := ok_refusals T
    sends := ok_sends T kept
    ask := ok_ask T need_order kept
    cancel := ok_cancel T
    most := ok_most T need_asked need_day room_for
    earliest := ok_earliest T need_asked is_whole room_for
    curve := ok_curve T need_asked room_for }
theorem ok_law (w : World) (K : PySem.W.Frag) (mg : Str → Option Value) (base : Heap) (T : Tx K mg) (TB : LamX.TabB base mg (lawC K) (lawP K)) : ∃ fd, FnS K "law" "law" (tp 65) (He.ga K "law") fd ∧
    FnOk PySem.Challenge.pw_surehouse_k02_whole_books w K mg base CX0 100 (He.ga K "law") fd ["_law_script"] (spLaw K (lawP K)) := by
  obtain ⟨fd, F, hm⟩ := T.fn ("law", 65) (by decide +kernel)
  refine ⟨fd, F, ?_⟩
  obtain ⟨oc, od, dV, kV, doc, pm, an, cdv, ct, osl, efd, lk, hcd, _, _⟩ := F.ex
  obtain ⟨c, rfl⟩ := He.codeIn_ref hcd
  subst efd
  have ec : lawC K = c := He.codeOf_eq (p := ("law", none)) lk rfl
  rw [ec] at TB
  refine fn_of (k := 99) lk hcd sc_lawN (fun vs H Q E h => ?_) fun A outer s H vs Q E hr h => ?_
  · obtain ⟨sa, ns, rfl, _⟩ := h
    rfl
  · obtain ⟨sa, ns, rfl, hS, hn, hP, kQ⟩ := h
    have D := all_kept (P := PySem.Challenge.pw_surehouse_k02_whole_books) (w := w) (base := base) T
    exact ⟨_, (lawD T D TB A outer s H E hr).2.nox, law_walk T D TB A outer s H E hr hS hP kQ⟩
end KS
theorem PySem.Challenge.cw_surehouse_k02_whole_books_holds : PySem.Challenge.rw_surehouse_k02_whole_books.Holds :=
  KS.holds_of KS.ok_law
