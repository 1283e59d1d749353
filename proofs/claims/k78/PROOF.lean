import PyProof.Rows.All
import Wide.All
import OpenK.AllK
import Wide.FinOn
import HandS.ForMost
import HandS.Walk
import HandS.Evl
import HandS.IsInst
import HandS.StrMore
import HandS.Flow
import HandS.Style
import HandS.Replace
import KE.GoesMore
import HandS.Zip
import HandS.SortKw
import KE.DataMinMax
import HandS.TupAny
import HandS.ForExc
import HandS.ExcInit
import HandS.ExcIs
import HandS.ExcField
import HandS.TryMany
import KE.KExcIs
import HandS.Defaults
import HandS.Lambda
import PyProof.ReprRoads
import HandS.EndTab
import PySem.Challenge.RW_cursorhouse_k78_steps_of_scripts
set_option Elab.async false
set_option maxRecDepth 100000
set_option maxHeartbeats 4000000
/-! Own rules beside the layer: enumerate over a tuple. -/
namespace My
open PySem L2 PyProof.Rows
theorem meets_enumT (l : Addr) (items : Array Value) (n : Nat) (dct : Option Addr) (sl : Array (Option Value)) :
    Meets (Builtin.«enumerate.__new__» ⟨[.type "enumerate", .ref l], []⟩) (fun _ R s => s.heap.get? l = some { cls := .type "tuple", dict := dct, data := .seq items n, slots := sl } ∧
      R (.ok (.ret (.ref (s.heap.push { cls := .type "tuple_iterator", data := .fields #[.ref l, .int 0 0] }).objs.size)))
        { s with heap := (s.heap.push { cls := .type "tuple_iterator", data := .fields #[.ref l, .int 0 0] }).push { cls := .type "enumerate", data := .fields #[.none, .bool false, .ref s.heap.objs.size, rawInt 0, .none, .none] } }) :=
  .of_wp fun prog w A R s h => by
    obtain ⟨hp, g, d, tk, os⟩ := s
    obtain ⟨hl, h⟩ := h
    have hsub := sub_enumerate
    have hL : Heap.IsTuple (Shared.heap ⟨hp, g, d, tk, os⟩) l items := ⟨_, hl, rfl, n, rfl⟩
    wp_walk using AutoSeq1.wpAny_loadPart' hl
    refine wpAny_stack_any fun st => wpAny_pure ?_
    split
    · rename_i c _ _ _ _ _
      cases (c == Value.type "enumerate")
      · wp_walk using AutoSeq1.wpAny_loadPart' hl, wpAny_pyIter_tuple hL
        exact ⟨_, rfl, h⟩
      · wp_walk using AutoSeq1.wpAny_loadPart' hl, wpAny_pyIter_tuple hL
        exact ⟨_, rfl, h⟩
    · wp_walk using AutoSeq1.wpAny_loadPart' hl, wpAny_pyIter_tuple hL
      exact ⟨_, rfl, h⟩
section
variable {prog : Program} {w : World} {A : Around} {E : Value → Shared → Prop} {s : Shared}
theorem call_enumT {l : Addr} {items : Array Value} {Q : Value → Shared → Prop} (hL : s.heap.IsTuple l items)
    (h : ∀ h', IsEnum h' (s.heap.objs.size + 1) s.heap.objs.size 0 .none → h'.IsTupleIter s.heap.objs.size l 0 → h'.objs.size = s.heap.objs.size + 2 →
      (∀ b o, s.heap.get? b = some o → h'.get? b = some o) → Q (.ref (s.heap.objs.size + 1)) { s with heap := h' }) :
    wpAny (model prog w) A (call (.type "enumerate") [.ref l]) Q E s := by
  obtain ⟨⟨c, dct, dt, sl⟩, hl, hc, n, hd⟩ := hL
  replace hc : c = .type "tuple" := hc
  replace hd : dt = .seq items n := hd
  subst hc hd
  refine callType_new F.called_enumerate (by decide) (F.typeCall_enumerate_1 _) (F.newCall_enumerate_1 _) (fun obj => F.args_object_init_2 obj _) F.entry_enumerate_new
    (meets_enumT l items n dct sl) ⟨hl, ?_⟩
  have hz : (s.heap.push { cls := .type "tuple_iterator", data := .fields #[.ref l, .int 0 0] }).objs.size = s.heap.objs.size + 1 := Heap.size_push ..
  show _ ∧ _
  rw [hz]
  have he : IsEnum ((s.heap.push { cls := .type "tuple_iterator", data := .fields #[.ref l, .int 0 0] }).push
      { cls := .type "enumerate", data := .fields #[.none, .bool false, .ref s.heap.objs.size, rawInt 0, .none, .none] }) (s.heap.objs.size + 1) s.heap.objs.size 0 .none := by
    have := Heap.get?_push_size (s.heap.push { cls := .type "tuple_iterator", data := .fields #[.ref l, .int 0 0] })
      (o := { cls := .type "enumerate", data := .fields #[.none, .bool false, .ref s.heap.objs.size, rawInt 0, .none, .none] }) rfl
    rw [hz] at this
    exact this
  exact ⟨⟨_, he, rfl⟩, h _ he ⟨_, Heap.get?_push_of_some _ (Heap.get?_push_size _ rfl), rfl, rfl⟩ (by rw [Heap.size_push, hz]) fun b o x => Heap.get?_push_of_some _ (Heap.get?_push_of_some _ x)⟩
theorem enumT_end {e it l : Addr} {i : Nat} {items : Array Value} {old : Value} {Q : Option Value → Shared → Prop} (hh : A.handled = none)
    (he : IsEnum s.heap e it i old) (hit : s.heap.IsTupleIter it l i) (hl : s.heap.IsTuple l items) (hx : items[i]? = none)
    (hQ : ∀ h', Heap.ExtBut it s.heap h' → Q none { s with heap := h' }) : wpAny (model prog w) A (pyNext (.ref e)) Q E s := by
  have tE : s.TypeIs (.ref e) "enumerate" := ⟨_, he, rfl⟩
  unfold pyNext
  refine wpAny_bind (wpAny_attempt (wpAny_callSpecial?_slot (name := Str.ofString "__next__") tE F.slot_enumerate_next
    (wpAny_call_entry F.slot_enumerate_next tE F.entry_enumerate_next ?_ (F.args_enumerate_next_1 _))))
  show wpAny _ _ (field (.ref e) 2 >>= _) _ _ _
  refine wpAny_bind (wpAny_field he rfl (x := .ref it) rfl ?_)
  refine wpAny_bind (wpAny_nextOf_tuple_end hh hit hl hx fun h' x he' hx' => ?_)
  obtain ⟨o, ho, hc⟩ := hx'
  refine wpAny_bind (wpAny_isInstance (T := "StopIteration") (b := true) ⟨o, ho, hc⟩ isSubtype_stop ?_)
  exact wpAny_pure (hQ _ he')
end
/-- the tuple at a as it stands at each turn, each item in a new pair -/
def Iet (K : PySem.W.Frag) (a : Addr) : It :=
  ⟨fun i H => ∃ (xs : List V) (x : V), SqT K H a xs ∧ xs[i]? = some x, fun i H v H' => ∃ T x, v = .ref T ∧ H T = none ∧ H' = upd H T (.tup [.int (i : Nat), x]) ∧ ∀ xs, SqT K H a xs → xs[i]? = some x, fun i H => ∃ xs : List V, SqT K H a xs ∧ xs.length ≤ i⟩
theorem turn_enumT {P : Program} {w : World} {K : PySem.W.Frag} {elts : List Expr} {kk : Nat} {tpos : Pos} (a e it : Addr) :
    Turn P w K (.Tuple elts kk tpos) (Iet K a) [e, it] e (fun i h => (∃ old, IsEnum h e it ((i : Nat) : Int) old) ∧ h.IsTupleIter it a i ∧ e ≠ it) where
  mem := by simp
  obj := fun i h st b hb => by
    obtain ⟨⟨old, he⟩, ⟨o, ho, hc, hd⟩, _⟩ := st
    have e' : b = e ∨ b = it := by simpa using hb
    rcases e' with z | z
    · rw [z]
      exact ⟨_, he, fun v q => nomatch q⟩
    · rw [z]
      exact ⟨o, ho, fun v q => by rw [hd] at q; cases q⟩
  keep := fun i h h' st k => let ⟨⟨old, he⟩, hi, hne⟩ := st; ⟨⟨old, k e (by simp) _ he⟩, hi.at fun o q => k it (by simp) o q, hne⟩
  item := by
    intro X hP hw hK hc i pins s σ H E I hf st hg
    subst hP hw hK
    obtain ⟨⟨old, he⟩, hit, hne⟩ := st
    obtain ⟨xs, x, hq, hx⟩ := hg
    obtain ⟨its, rv, p, hz⟩ := I.tuple hq
    obtain ⟨u, hu, ru⟩ := rv.get hx
    have hel : e < s.heap.objs.size := Heap.lt_size he
    have hil : it < s.heap.objs.size := by
      obtain ⟨_, q, _⟩ := hit
      exact Heap.lt_size q
    have hlt : i < its.toArray.size := by
      have := (List.getElem?_eq_some_iff.mp hu).1
      simpa using this
    have hai : a ≠ it := by
      intro q
      obtain ⟨o, ho, hc', _⟩ := p
      obtain ⟨o2, ho2, hc2, _⟩ := hit
      rw [q, ho2] at ho
      cases ho
      rw [hc2] at hc'
      injection hc' with e1
      exact absurd e1 (by decide)
    have hae : a ≠ e := by
      intro q
      obtain ⟨o, ho, hc', _⟩ := p
      rw [q, he] at ho
      cases ho
      injection (show Value.type "enumerate" = Value.type "tuple" from hc') with e1
      exact absurd e1 (by decide)
    refine wpAny_pyNext_enum_itemD (Draws.tuple (A := X.A.in1) (show X.A.in1.handled = none from I.ok.hd hc) it a hai its.toArray) he ⟨hit, p⟩ hlt hne (by simp [hne, Ne.symm hae]) fun y h' tk hy ho hit' hT hsz hk => ?_
    have hyu : y = u := by
      have h1 : its.toArray[i]? = some u := by simpa using hu
      rw [h1] at hy
      exact (Option.some.inj hy).symm
    subst hyu
    refine ⟨_, rfl, wpAny_letOwnedTupleGo_enum (s := { s with heap := h', toks := tk + 1 }) ho fun h'' he' sb => ?_⟩
    have hT2 : h''.get? s.heap.objs.size = some { cls := .type "tuple", data := .seq #[.int i tk, y] } := (sb.2 _ (Nat.ne_of_gt hel)).trans hT
    have new : ObjOk X.prog X.w (upd H s.heap.objs.size (.tup [.int (i : Nat), x])) h'' s.heap.objs.size (.tup [.int (i : Nat), x]) :=
      ⟨by show 2 ≤ sizeLine; decide, [.int i tk, y], .cons ⟨_, rfl⟩ (.cons ru .nil), ⟨_, hT2, rfl, _, rfl⟩⟩
    have I1 : Inv X pins σ (upd H s.heap.objs.size (.tup [.int (i : Nat), x])) { s with heap := h'', toks := tk + 1 } :=
      I.turnedNew (ch := [e, it]) (fun b ob hb q => (sb.2 b (fun z => hb (by simp [z]))).trans (hk b ob (fun z => hb (by simp [z])) (fun z => hb (by simp [z])) q)) hf (Nat.le_refl _) new
    refine ⟨.ref s.heap.objs.size, _, I1, rfl, ⟨_, x, rfl, I.hok.fresh (Nat.le_refl _), rfl, fun ys hy => by rw [I.tuple_inj hy hq]; exact hx⟩, ⟨⟨y, ?_⟩, hit'.1.at fun o q => (sb.2 it (Ne.symm hne)).trans q, hne⟩, fun b hb => ?_⟩
    · have e1 : ((i + 1 : Nat) : Int) = (i : Int) + 1 := by omega
      rw [e1]
      exact he'
    · have hb' : b < s.heap.objs.size := by
        have e' : b = e ∨ b = it := by simpa using hb
        rcases e' with z | z
        · rw [z]
          exact hel
        · rw [z]
          exact hil
      rw [upd_ne (Nat.ne_of_lt hb')]
      exact (hf b hb).1
  done := by
    intro X hP hw hK hc i pins s σ H E I hf st hg
    subst hP hw hK
    obtain ⟨⟨old, he⟩, hit, hne⟩ := st
    obtain ⟨xs, hq, hx⟩ := hg
    obtain ⟨its, rv, p, hz⟩ := I.tuple hq
    obtain ⟨f0, f1, f2, f3, f4, f5⟩ := hf it (by simp)
    have hl := rv.length
    exact enumT_end (I.ok.hd hc) he hit p (by simp; omega) fun h' eb => ⟨rfl, I.turned (t' := s.toks) (fun b o hb q => eb b o hb q) f0 f1 f3 f4 f5⟩
  self := fun A i s Q E st h => let ⟨⟨_, he⟩, _⟩ := st; wpAny_pyIter_enum he h
def iEnumT (K : PySem.W.Frag) (ta : TA) : TI := fun σ H R => ta σ H fun vs H1 => ∃ a xs, vs = [.ref a] ∧ SqT K H1 a xs ∧ R (Iet K a) H1
theorem pi_enumT {X : Cx} {e : Expr} {ta : TA} {p pos tpos : Pos} {elts : List Expr} {kk : Nat} (hg : Gl X "enumerate") (hm : X.mg "enumerate" = none) (ha : PA X [e] ta) (hs : starEach [e] X.env = [(false, eval e X.env)] := by rfl) :
    PI X (.Tuple elts kk tpos) (.Call (.Name "enumerate" p) [e] [] pos) (iEnumT X.K ta) := by
  refine ⟨fun pins s σ H R I h => ?_⟩
  refine Call_ (ld_blt I hg hm boot_enumerate (PyProof.Rows.callWith_type1 (thn (ha.run pos pins s σ H _ I h) fun us s1 ⟨vs, H1, I1, r1, q1⟩ => ?_) hs rfl))
  obtain ⟨a, xs, ex, hq, q⟩ := q1
  subst ex
  cases r1 with
  | cons r rr =>
    cases rr
    cases r
    obtain ⟨its, rv, p', hz⟩ := I1.tuple hq
    refine call_enumT (show s1.heap.IsTuple a its.toArray from p') fun h' he hit hsz hk => wpAny_pyIter_enum he ?_
    have I2 : Inv X pins σ H1 { s1 with heap := h' } := I1.kept (t' := s1.toks) hk
    refine ⟨s1.heap.objs.size + 1, [s1.heap.objs.size + 1, s1.heap.objs.size], _, _, H1, rfl, I2, turn_enumT a (s1.heap.objs.size + 1) s1.heap.objs.size, ⟨⟨.none, he⟩, hit, Nat.succ_ne_self _⟩, fun b hb => ?_, q⟩
    have e' : b = s1.heap.objs.size + 1 ∨ b = s1.heap.objs.size := by simpa using hb
    have hle : s1.heap.objs.size ≤ b := by
      rcases e' with z | z
      · rw [z]
        exact Nat.le_add_right _ _
      · rw [z]
        exact Nat.le_refl _
    exact I1.fpOk hle (I1.hok.fresh hle)
theorem walk_enumT {K : PySem.W.Frag} {a : Addr} {xs : List V} : Walk (Iet K a) xs.length (fun H => SqT K H a xs) (YPair (fun i => some (.int (i : Nat))) (fun i => xs[i]?)) :=
  ⟨fun i H hi h => ⟨xs, xs[i], h, by simp [hi]⟩, fun H h => ⟨xs, h, Nat.le_refl _⟩, fun i H v H' hi h y => by
    obtain ⟨T, x, e, f, g, q⟩ := y
    exact ⟨T, .int (i : Nat), x, e, f, g, rfl, q xs h⟩⟩
end My

set_option Elab.async false
set_option maxRecDepth 100000
set_option maxHeartbeats 4000000
set_option linter.all false
/-! A def of the text and what it promises, by its name alone. -/
namespace My
open PySem PySem.Spec PyProof.Rows L2
/-- the def x of the text stands at its name, with parameters ps and no defaults -/
def Df (K : PySem.W.Frag) (mg : Str → Option Value) (x : Str) (st : Stmt) (ps : List Str) : Prop :=
  ∃ f fd, Fun K x x st f fd ∧ Binds K fd ps [] ∧ mg x = some (.ref f)
/-- the def that stands at the name x keeps the promise sp at level k -/
def Pr (P : Program) (w : World) (K : PySem.W.Frag) (mg : Str → Option Value) (base : Heap) (k : Nat) (x : Str) (ps : List Str) (sp : Sp) : Prop :=
  ∃ f fd, FnOk P w K mg base CX0 k f fd ps sp ∧ mg x = some (.ref f) ∧ PySem.W.keepIn K (.ref f) = true ∧ Binds K fd ps []
theorem pe_callP {X : Cx} {k : Nat} {x : Str} {ps : List Str} {sp : Sp} {e : Expr} {es : List Expr} {t : TA} {p pos : Pos}
    (h : Pr X.prog X.w X.K X.mg X.base k x ps sp) (hr : Room k X.A) (hg : Gl X x) (ha : PA X (e :: es) t)
    (hdb : (x == ("__debug__" : Str)) = false := by decide) (he : starEach (e :: es) X.env = (false, eval e X.env) :: starEach es X.env := by rfl) (hpl : (backTo pos (starEach es X.env)).any (·.1) = false := by rfl) :
    PE X (.Call (.Name x p) (e :: es) [] pos) (tCall sp [] E0 t) := by
  obtain ⟨f, fd, F, hm, hk, hb⟩ := h
  exact pe_call F hr hg hm hk hb .nil pass0 ha hdb he hpl
theorem Df.pr {P : Program} {w : World} {K : PySem.W.Frag} {mg : Str → Option Value} {base : Heap} {x : Str} {st : Stmt} {N ps : List Str} {k : Nat} {sp : Sp}
    (D : Df K mg x st ps) (S : FnScope N ps (defScope st)) (len : ∀ vs H Q E, sp vs H Q E → vs.length = ps.length)
    (hbody : ∀ (f : Addr) (cdv : Value) (A : Around) (outer : List Env) (s : Shared) (H : Hp) (vs : List V) (Q : VK) (E : XK), Room k (A.deeper (envOfC x (defScope st) s.heap.objs.size f cdv)) → sp vs H Q E →
      ∃ t, PSs (cxOf CX0 P w K mg base N x (defScope st) f cdv A outer s H E).nox (defBody st) t ∧ t { nx := fun _ H' => Q .non H', rt := Q } (start N vs) H) :
    Pr P w K mg base (k + 1) x ps sp := by
  obtain ⟨f, fd, F, b, g⟩ := D
  exact ⟨f, fd, F.ok S len (hbody f), g, F.kp, b⟩
/-- all but the object at p stays -/
def But (p : Addr) (H H' : Hp) : Prop := ∀ b o, H b = some o → b ≠ p → H' b = some o
theorem But.refl (p : Addr) (H : Hp) : But p H H := fun _ _ e _ => e
theorem But.trans {p : Addr} {H H1 H2 : Hp} (a : But p H H1) (b : But p H1 H2) : But p H H2 := fun x o e n => b x o (a x o e n) n
theorem But.upd {p : Addr} {H H1 : Hp} {o : HO} (a : But p H H1) : But p H (upd H1 p o) := fun x u e n => by
  rw [upd_ne n]
  exact a x u e n
theorem But.new {p q : Addr} {H H1 : Hp} {o : HO} (a : But p H H1) (h : H1 q = none) : But p H (L2.upd H1 q o) := fun x u e n => by
  rw [upd_ne (ne_of_none (a x u e n) h)]
  exact a x u e n
/-- the law's own drawing state at st: cells at c (the script's numbers), the rest open -/
def Drw (H : Hp) (st c : Addr) (ns : List Int) : Prop :=
  H c = some (.lst (ns.map V.int)) ∧ ∃ (n v : Int) (b : Bool), 0 ≤ n ∧ H st = some (.lst [.ref c, .int n, .int v, .bl b])
theorem Drw.ne {H : Hp} {st c : Addr} {ns : List Int} (h : Drw H st c ns) : c ≠ st := by
  obtain ⟨hc, n, v, b, _, hs⟩ := h
  refine ne_of hc hs fun e => ?_
  injection e with e
  cases ns with
  | nil => cases e
  | cons a r =>
    injection e with e1 _
    cases e1
theorem Drw.put {H : Hp} {st c : Addr} {ns : List Int} (h : Drw H st c ns) {n v : Int} {b : Bool} (h0 : 0 ≤ n) : Drw (L2.upd H st (.lst [.ref c, .int n, .int v, .bl b])) st c ns :=
  ⟨by rw [upd_ne h.ne]; exact h.1, n, v, b, h0, upd_same⟩
theorem Drw.new {H : Hp} {st c q : Addr} {ns : List Int} {o : HO} (h : Drw H st c ns) (hq : H q = none) : Drw (L2.upd H q o) st c ns := by
  obtain ⟨hc, n, v, b, h0, hs⟩ := h
  exact ⟨by rw [upd_ne (ne_of_none hc hq)]; exact hc, n, v, b, h0, by rw [upd_ne (ne_of_none hs hq)]; exact hs⟩
theorem Drw.but {H H' : Hp} {st c : Addr} {ns : List Int} (h : Drw H st c ns) {n v : Int} {b : Bool} (h0 : 0 ≤ n) (hb : But st H H') (hs : H' st = some (.lst [.ref c, .int n, .int v, .bl b])) : Drw H' st c ns :=
  ⟨hb _ _ h.1 h.ne, n, v, b, h0, hs⟩
/-- a test whose both answers leave the heap as it is -/
theorem tt_any {c : TT} {σ : L2.St} {H : Hp} {K : Bool → Hp → Prop} (h : ∀ K' : Bool → Hp → Prop, K' true H → K' false H → c σ H K') (hT : K true H) (hF : K false H) : c σ H K := h K hT hF
theorem ite3 {c : Prop} [Decidable c] {K : Bool → Hp → Prop} {H : Hp} (a : c → K true H) (b : ¬ c → K false H) : K (decide c) H := by
  by_cases h : c
  · rw [decide_eq_true h]
    exact a h
  · rw [decide_eq_false h]
    exact b h
end My

set_option Elab.async false
set_option maxRecDepth 100000
set_option maxHeartbeats 4000000
set_option linter.all false
/-! Data that stands in the heap, apart from one object m that may change. -/
namespace My
open PySem PySem.Spec PyProof.Rows L2
mutual
inductive At (m : Addr) (H : Hp) : V → PyData → Prop
  | non : At m H .non .none
  | bl (b : Bool) : At m H (.bl b) (.bool b)
  | int (i : Int) : At m H (.int i) (.int i)
  | str (x : Str) : At m H (.str x) (.str x)
  | lst {a : Addr} {xs : List V} {ds : List PyData} : a ≠ m → H a = some (.lst xs) → AtAll m H xs ds → At m H (.ref a) (.list ds)
  | tup {a : Addr} {xs : List V} {ds : List PyData} : a ≠ m → H a = some (.tup xs) → AtAll m H xs ds → At m H (.ref a) (.tuple ds)
inductive AtAll (m : Addr) (H : Hp) : List V → List PyData → Prop
  | nil : AtAll m H [] []
  | cons {v : V} {vs : List V} {d : PyData} {ds : List PyData} : At m H v d → AtAll m H vs ds → AtAll m H (v :: vs) (d :: ds)
end
mutual
theorem At.mono {m : Addr} {H H' : Hp} (b : But m H H') : ∀ {v : V} {d : PyData}, At m H v d → At m H' v d
  | _, _, .non => .non
  | _, _, .bl k => .bl k
  | _, _, .int i => .int i
  | _, _, .str x => .str x
  | _, _, .lst n h q => .lst n (b _ _ h n) (AtAll.mono b q)
  | _, _, .tup n h q => .tup n (b _ _ h n) (AtAll.mono b q)
theorem AtAll.mono {m : Addr} {H H' : Hp} (b : But m H H') : ∀ {vs : List V} {ds : List PyData}, AtAll m H vs ds → AtAll m H' vs ds
  | _, _, .nil => .nil
  | _, _, .cons h q => .cons (At.mono b h) (AtAll.mono b q)
end
mutual
theorem At.dp {K : PySem.W.Frag} {m : Addr} {H : Hp} : ∀ {v : V} {d : PyData}, At m H v d → Dp K H v d
  | _, _, .non => .non
  | _, _, .bl k => .bl k
  | _, _, .int i => .int i
  | _, _, .str x => .str x
  | _, _, .lst n h q => .lst (SqL.of h) (AtAll.dp q)
  | _, _, .tup n h q => .tup (SqT.of h) (AtAll.dp q)
theorem AtAll.dp {K : PySem.W.Frag} {m : Addr} {H : Hp} : ∀ {vs : List V} {ds : List PyData}, AtAll m H vs ds → DpAll K H vs ds
  | _, _, .nil => .nil
  | _, _, .cons h q => .cons (At.dp h) (AtAll.dp q)
end
theorem Same.but {m : Addr} {H H' : Hp} (s : Same H H') : But m H H' := fun b o e _ => s b o e
theorem AtAll.length {m : Addr} {H : Hp} : ∀ {vs : List V} {ds : List PyData}, AtAll m H vs ds → vs.length = ds.length
  | _, _, .nil => rfl
  | _, _, .cons _ q => by rw [List.length_cons, List.length_cons, AtAll.length q]
theorem AtAll.get {m : Addr} {H : Hp} : ∀ {vs : List V} {ds : List PyData} {i : Nat} {v : V}, AtAll m H vs ds → vs[i]? = some v → ∃ d, ds[i]? = some d ∧ At m H v d
  | _, _, _, _, .nil, e => by simp at e
  | _, _, 0, _, .cons h _, e => by
    simp at e
    subst e
    exact ⟨_, rfl, h⟩
  | _, _, i + 1, v, .cons _ q, e => by
    obtain ⟨d, h1, h2⟩ := AtAll.get (i := i) (v := v) q (by simpa using e)
    exact ⟨d, by simpa using h1, h2⟩
theorem AtAll.append {m : Addr} {H : Hp} {v : V} {d : PyData} : ∀ {vs : List V} {ds : List PyData}, AtAll m H vs ds → At m H v d → AtAll m H (vs ++ [v]) (ds ++ [d])
  | _, _, .nil, h => .cons h .nil
  | _, _, .cons h q, e => .cons h (AtAll.append q e)
theorem AtAll.bools {m : Addr} {H : Hp} : ∀ (bs : List Bool), AtAll m H (bs.map V.bl) (bs.map PyData.bool)
  | [] => .nil
  | b :: r => .cons (.bl b) (AtAll.bools r)
theorem AtAll.mem {m : Addr} {H : Hp} {vs : List V} {ds : List PyData} {v : V} (h : AtAll m H vs ds) (hv : v ∈ vs) : ∃ d, d ∈ ds ∧ At m H v d := by
  obtain ⟨i, hi, e⟩ := List.getElem_of_mem hv
  obtain ⟨d, h1, h2⟩ := h.get (i := i) (v := v) (by rw [List.getElem?_eq_getElem hi, e])
  exact ⟨d, List.mem_of_getElem? h1, h2⟩
/-- what type(x) is called -/
def tyS : PyData → String
  | .none => "NoneType" | .bool _ => "bool" | .int _ => "int" | .str _ => "str" | .list _ => "list" | .tuple _ => "tuple" | .dict _ => "dict"
theorem At.ty {K : PySem.W.Frag} {m : Addr} {H : Hp} {v : V} {d : PyData} (h : At m H v d) : TyX K H v (.type (tyS d)) := by
  cases h with
  | non => exact .base .non
  | bl b => exact .base (.bl b)
  | int i => exact .base (.int i)
  | str x => exact .base (.str x)
  | lst n e q => exact .base (.lst e)
  | tup n e q => exact .base (.tup e)
/-- nested at most n deep -/
inductive Lev : Nat → PyData → Prop
  | non (n : Nat) : Lev n .none
  | bl (n : Nat) (b : Bool) : Lev n (.bool b)
  | int (n : Nat) (i : Int) : Lev n (.int i)
  | str (n : Nat) (x : Str) : Lev n (.str x)
  | lst {n : Nat} {ds : List PyData} : ds.length ≤ 1000000 → (∀ x, x ∈ ds → Lev n x) → Lev (n + 1) (.list ds)
  | tup {n : Nat} {ds : List PyData} : ds.length ≤ 1000000 → (∀ x, x ∈ ds → Lev n x) → Lev (n + 1) (.tuple ds)
theorem walk_zipT {K : PySem.W.Frag} {a b : Addr} {xs ys : List V} (hn : xs.length = ys.length) : Walk (RZ.ItzT K a b) xs.length (fun H => SqT K H a xs ∧ SqT K H b ys) (YPair (fun i => xs[i]?) (fun i => ys[i]?)) :=
  ⟨fun i H hi h => ⟨xs, ys, xs[i], ys[i]'(by omega), h.1, h.2, by simp [hi], by simp [show i < ys.length by omega]⟩, fun H h => ⟨xs, ys, h.1, h.2, .inl (Nat.le_refl _)⟩, fun i H v H' hi h y => by
    obtain ⟨T, x, y, e, f, g, q, r⟩ := y
    exact ⟨T, x, y, e, f, g, q xs h.1, r ys h.2⟩⟩
theorem walk_zipL {K : PySem.W.Frag} {a b : Addr} {xs ys : List V} (hn : xs.length = ys.length) : Walk (Itz K a b) xs.length (fun H => SqL K H a xs ∧ SqL K H b ys) (YPair (fun i => xs[i]?) (fun i => ys[i]?)) :=
  ⟨fun i H hi h => ⟨xs, ys, xs[i], ys[i]'(by omega), h.1, h.2, by simp [hi], by simp [show i < ys.length by omega]⟩, fun H h => ⟨xs, ys, h.1, h.2, .inl (Nat.le_refl _)⟩, fun i H v H' hi h y => by
    obtain ⟨T, x, y, e, f, g, q, r⟩ := y
    exact ⟨T, x, y, e, f, g, q xs h.1, r ys h.2⟩⟩
/-- what _law_same promises: two things that are the same data are told so -/
def spSame (n : Nat) : Sp := fun vs H Q _ => ∃ (m : Addr) (x y : V) (d : PyData) (o : HO), vs = [x, y] ∧ H m = some o ∧ At m H x d ∧ At m H y d ∧ Lev n d ∧ ∀ H', Same H H' → Q (.bl true) H'
theorem But.sqL {K : PySem.W.Frag} {p a : Addr} {H H' : Hp} {xs : List V} (b : But p H H') (n : a ≠ p) (h : SqL K H a xs) : SqL K H' a xs := by
  rcases h with h | h
  · rcases h with h | ⟨o, h⟩
    · exact .inl (.inl (b _ _ h n))
    · exact .inl (.inr ⟨o, b _ _ h n⟩)
  · exact .inr h
theorem But.sqT {K : PySem.W.Frag} {p a : Addr} {H H' : Hp} {xs : List V} (b : But p H H') (n : a ≠ p) (h : SqT K H a xs) : SqT K H' a xs := by
  rcases h with h | h
  · rcases h with h | ⟨o, h⟩
    · exact .inl (.inl (b _ _ h n))
    · exact .inl (.inr ⟨o, b _ _ h n⟩)
  · exact .inr h
def kitAnyB (a : String) : List String → Option Bool
  | [] => some false
  | c :: cs => match kitB a c with
    | some true => some true
    | some false => kitAnyB a cs
    | none => none
theorem kit_any {K : PySem.W.Frag} {a : String} : ∀ {cs : List String} {b : Bool}, kitAnyB a cs = some b → PySem.W.kitAny K (.type a) (cs.map Value.type) = some b
  | [], b, h => by
    cases h
    exact kitAny_nil
  | c :: cs, b, h => by
    unfold kitAnyB at h
    cases e : kitB a c with
    | none =>
      rw [e] at h
      cases h
    | some r =>
      rw [e] at h
      cases r with
      | true =>
        cases h
        exact kitAny_cons (kit_ty e) (fun z => by cases z) (fun _ => rfl)
      | false => exact kitAny_cons (kit_ty e) (fun _ => kit_any h) (fun z => by cases z)
theorem cls_all : ∀ (cs : List String), Paired ClsV (cs.map V.ty) (cs.map Value.type)
  | [] => .nil
  | c :: cs => .cons (.ty c) (cls_all cs)
theorem k_NoneType_list : kitB "NoneType" "list" = some false := by decide +kernel
theorem k_NoneType_tuple : kitB "NoneType" "tuple" = some false := by decide +kernel
theorem k_NoneType_int : kitB "NoneType" "int" = some false := by decide +kernel
theorem k_NoneType_bool : kitB "NoneType" "bool" = some false := by decide +kernel
theorem k_NoneType_str : kitB "NoneType" "str" = some false := by decide +kernel
theorem k_NoneType_lt : kitAnyB "NoneType" ["list", "tuple"] = some false := by decide +kernel
theorem k_NoneType_bilt : kitAnyB "NoneType" ["bool", "int", "list", "tuple"] = some false := by decide +kernel
theorem k_bool_list : kitB "bool" "list" = some false := by decide +kernel
theorem k_bool_tuple : kitB "bool" "tuple" = some false := by decide +kernel
theorem k_bool_int : kitB "bool" "int" = some true := by decide +kernel
theorem k_bool_bool : kitB "bool" "bool" = some true := by decide +kernel
theorem k_bool_str : kitB "bool" "str" = some false := by decide +kernel
theorem k_bool_lt : kitAnyB "bool" ["list", "tuple"] = some false := by decide +kernel
theorem k_bool_bilt : kitAnyB "bool" ["bool", "int", "list", "tuple"] = some true := by decide +kernel
theorem k_int_list : kitB "int" "list" = some false := by decide +kernel
theorem k_int_tuple : kitB "int" "tuple" = some false := by decide +kernel
theorem k_int_int : kitB "int" "int" = some true := by decide +kernel
theorem k_int_bool : kitB "int" "bool" = some false := by decide +kernel
theorem k_int_str : kitB "int" "str" = some false := by decide +kernel
theorem k_int_lt : kitAnyB "int" ["list", "tuple"] = some false := by decide +kernel
theorem k_int_bilt : kitAnyB "int" ["bool", "int", "list", "tuple"] = some true := by decide +kernel
theorem k_str_list : kitB "str" "list" = some false := by decide +kernel
theorem k_str_tuple : kitB "str" "tuple" = some false := by decide +kernel
theorem k_str_int : kitB "str" "int" = some false := by decide +kernel
theorem k_str_bool : kitB "str" "bool" = some false := by decide +kernel
theorem k_str_str : kitB "str" "str" = some true := by decide +kernel
theorem k_str_lt : kitAnyB "str" ["list", "tuple"] = some false := by decide +kernel
theorem k_str_bilt : kitAnyB "str" ["bool", "int", "list", "tuple"] = some false := by decide +kernel
theorem k_list_list : kitB "list" "list" = some true := by decide +kernel
theorem k_list_tuple : kitB "list" "tuple" = some false := by decide +kernel
theorem k_list_int : kitB "list" "int" = some false := by decide +kernel
theorem k_list_bool : kitB "list" "bool" = some false := by decide +kernel
theorem k_list_str : kitB "list" "str" = some false := by decide +kernel
theorem k_list_lt : kitAnyB "list" ["list", "tuple"] = some true := by decide +kernel
theorem k_list_bilt : kitAnyB "list" ["bool", "int", "list", "tuple"] = some true := by decide +kernel
theorem k_tuple_list : kitB "tuple" "list" = some false := by decide +kernel
theorem k_tuple_tuple : kitB "tuple" "tuple" = some true := by decide +kernel
theorem k_tuple_int : kitB "tuple" "int" = some false := by decide +kernel
theorem k_tuple_bool : kitB "tuple" "bool" = some false := by decide +kernel
theorem k_tuple_str : kitB "tuple" "str" = some false := by decide +kernel
theorem k_tuple_lt : kitAnyB "tuple" ["list", "tuple"] = some true := by decide +kernel
theorem k_tuple_bilt : kitAnyB "tuple" ["bool", "int", "list", "tuple"] = some true := by decide +kernel
/-- isinstance(x, C) of data, as the reading asks it -/
theorem isi_of {K : PySem.W.Frag} {m : Addr} {H : Hp} {v : V} {d : PyData} {c : String} {b : Bool} {Q : VK} (h : At m H v d) (k : kitB (tyS d) c = some b) (q : Q (.bl b) H) : rIsi K [v, .ty c] H Q :=
  ⟨_, _, _, _, b, rfl, .ty c, h.ty, kit_ty k, q⟩
theorem isiT_of {K : PySem.W.Frag} {m tp : Addr} {H : Hp} {v : V} {d : PyData} {cs : List String} {b : Bool} {Q : VK} (h : At m H v d) (ht : H tp = some (.tup (cs.map V.ty))) (k : kitAnyB (tyS d) cs = some b) (q : Q (.bl b) H) : rIsiT K [v, .ref tp] H Q :=
  ⟨_, _, _, _, _, b, rfl, ht, cls_all cs, h.ty, kit_any k, q⟩
theorem small6 {n : Nat} (h : n < 1000000) : n < sizeLine := Nat.lt_trans h (by decide)
/-- an if whose test leaves the heap as it is, both ways to be shown -/
theorem if_any {c : TT} {t u : TS} {D : Ends} {σ : L2.St} {H : Hp} (h : ∀ K' : Bool → Hp → Prop, K' true H → K' false H → c σ H K') (hT : t D σ H) (hF : u D σ H) : tIfS c t u D σ H := h _ (iteT hT) (iteF hF)
theorem seq_if_any {c : TT} {t u r : TS} {D : Ends} {σ : L2.St} {H : Hp} (h : ∀ K' : Bool → Hp → Prop, K' true H → K' false H → c σ H K') (hT : t { D with nx := r D } σ H) (hF : u { D with nx := r D } σ H) : tSeq (tIfS c t u) r D σ H := h _ (iteT hT) (iteF hF)
theorem by_bool {K' : Bool → Hp → Prop} {H : Hp} (a : K' true H) (b : K' false H) : ∀ c, K' c H
  | true => a
  | false => b
end My

set_option Elab.async false
set_option maxRecDepth 100000
set_option maxHeartbeats 4000000
set_option linter.all false
namespace C78
open PySem L2 My
def top (i : Nat) : Stmt := PySem.Challenge.pw_cursorhouse_k78_steps_of_scripts.main.body.getD i (.Pass ⟨0, 0, 0, 0⟩)
abbrev sFresh : Stmt := top 26
abbrev sFill : Stmt := top 27
abbrev sTake : Stmt := top 28
abbrev sOne : Stmt := top 29
structure Tx (mg : Str → Option Value) : Prop where
  len : mg "len" = none
  int : mg "int" = none
  enumerate : mg "enumerate" = none
def spFill : Sp := fun vs H Q _ => ∃ (st c : Addr) (ns : List Int), vs = [.ref st] ∧ Drw H st c ns ∧ ns.length ≤ 63 ∧
  ∀ H', Drw H' st c ns → But st H H' → Q .non H'
section
variable {P : Program} {w : World} {K : PySem.W.Frag} {mg : Str → Option Value} {base : Heap}
theorem scFill : FnScope ["_law_state", "_law_cells", "_law_nth", "_law_seed", "_law_k", "_law_prime", "_law_far"] ["_law_state"] (defScope sFill) := ⟨rfl, rfl, rfl, by decide +kernel, rfl, by decide +kernel, by decide +kernel⟩
theorem pr_fill (D : Df K mg "_law_fill" sFill ["_law_state"]) (T : Tx mg) : Pr P w K mg base 1 "_law_fill" ["_law_state"] spFill := by
  refine D.pr scFill (fun vs H Q E h => ?_) (fun f cdv A outer s H vs Q E hr h => ?_)
  · obtain ⟨p, c, ns, rfl, _⟩ := h
    rfl
  · obtain ⟨st, c, ns, rfl, dr, hn, k⟩ := h
    have nd := scFill.nd
    have hne := dr.ne
    obtain ⟨hc, n, v, b, n0, hs⟩ := id dr
    refine ⟨_, (pss_cons (ps_par (by rfl) nd (i := 1) (j := 2) rfl rfl (by decide) rfl rfl (pa_cons (pe_ix ix_list (pv 0) pe_int (fun _ _ => rfl)) (pa_cons (pe_ix ix_list (pv 0) pe_int (fun _ _ => rfl)) pa_nil)) (by rfl))
      (pss_cons (ps_asg (pe_op op_add (pe_op op_mul pe_int (pv 2)) pe_int) (pg_name (i := 3) nd rfl (Or.inl rfl)))
      (Evl.pss_cut (ps_if (pt_cmpR op_gt (pe_callB call_len (by rfl) T.len PySem.boot_len (pa_cons (pv 1) pa_nil)) pe_int (nomark _))
        (pss_one (ps_asg (pe_op op_add (pe_op op_mul pe_int (pe_op op_fdivN (pv 2) (pe_callB call_len (by rfl) T.len PySem.boot_len (pa_cons (pv 1) pa_nil)))) (pe_ix ix_list (pv 1) (pe_op op_modN (pe_callTy call_int1 (by rfl) T.int (by decide +kernel) (pa_cons (pv 2) pa_nil)) (pe_callB call_len (by rfl) T.len PySem.boot_len (pa_cons (pv 1) pa_nil))) (fun _ _ => rfl))) (pg_name (i := 3) nd rfl (Or.inl rfl))))
        pss_nil)
      (pss_cons (ps_asg (pe_op op_add (pv 2) pe_int) (pg_sub (pv 0) pe_int set_list))
      (Evl.pss_cut (ps_asg (pe_or (pe_cmpR op_ge (pv 2) (pe_callB call_len (by rfl) T.len PySem.boot_len (pa_cons (pv 1) pa_nil)) (nomark _)) (pe_one (pe_cmpR op_lt (pv 3) (pe_op op_pow pe_int pe_int) (nomark _)))) (pg_sub (pv 0) pe_int set_list))
      (pss_cons (ps_asg (pe_op op_sub (pv 3) (pe_op op_pow pe_int pe_int)) (pg_sub (pv 0) pe_int set_list))
      (pss_one (ps_if (pt_val (pe_ix ix_list (pv 0) pe_int (fun _ _ => rfl)))
        (pss_cons (ps_asg pe_int (pg_sub (pv 0) pe_int set_list))
        (pss_one (ps_for PassesOwn.never rfl (pi_enumT (by rfl) T.enumerate (pa_cons (pe_tup (pa_cons pe_int (pa_cons pe_int (pa_cons pe_int (pa_cons pe_int (pa_cons pe_int pa_nil)))))) pa_nil)) (pg_tup rfl (pgs_cons (pg_name (i := 4) nd rfl (Or.inl rfl)) (pgs_cons (pg_name (i := 5) nd rfl (Or.inl rfl)) pgs_nil)))
          (pss_cons (ps_asg (pe_op op_modN (pe_callTy call_int1 (by rfl) T.int (by decide +kernel) (pa_cons (pe_op op_mul (pe_op op_add (pe_op op_add (pv 3) (pe_op op_mul (pe_op op_mul pe_int (pv 4)) (pv 4))) (pe_op op_mul pe_int (pv 4))) (pe_op op_add pe_int (pe_op op_mul pe_int (pv 4)))) pa_nil)) (pv 5)) (pg_name (i := 6) nd rfl (Or.inl rfl)))
          (pss_one (ps_asg (pe_op op_add (pe_op op_mul (pe_ix ix_list (pv 0) pe_int (fun _ _ => rfl)) (pv 5)) (pe_op op_modN (pe_callTy call_int1 (by rfl) T.int (by decide +kernel) (pa_cons (pe_op op_pow (pv 6) pe_int) pa_nil)) (pv 5))) (pg_sub (pv 0) pe_int set_list)))))))
        pss_nil)))))))), ?_⟩
    refine ⟨_, rfl, _, _, _, _, rfl, rfl, SqL.of hs, rfl, _, rfl, _, _, _, _, rfl, rfl, SqL.of hs, rfl, _, _, rfl, ?_⟩
    refine ⟨_, rfl, _, _, rfl, rfl, .inl ⟨by decide, by decide⟩, _, _, rfl, rfl, ?_⟩
    refine ⟨fun σ' H' => H' = H ∧ ∃ z : Int, σ' = [some (.ref st), some (.ref c), some (.int n), some (.int z), none, none, none], ?_, ?_⟩
    · refine ⟨_, rfl, _, _, rfl, .inl ⟨_, SqL.of hc, rfl⟩, _, _, rfl, rfl, _, rfl, ?_⟩
      refine ite2 (fun h0 => ?_) (fun _ => ⟨rfl, _, rfl⟩)
      have hl0 : (0 : Int) < ((ns.map V.int).length : Int) := of_decide_eq_true h0
      have hlen : (ns.map V.int).length = ns.length := List.length_map ..
      have hm0 : 0 ≤ n.fmod ((ns.map V.int).length : Int) := Int.fmod_nonneg_of_pos n hl0
      have hm1 : n.fmod ((ns.map V.int).length : Int) < ((ns.map V.int).length : Int) := Int.fmod_lt_of_pos n hl0
      obtain ⟨j, hj⟩ := Int.eq_ofNat_of_zero_le hm0
      have hjl : j < ns.length := by omega
      refine ⟨_, rfl, _, rfl, _, _, rfl, .inl ⟨_, SqL.of hc, rfl⟩, _, _, rfl, rfl, ⟨by omega, by omega⟩, _, _, rfl, rfl, .inl ⟨by decide, by decide⟩, ?_⟩
      refine ⟨_, rfl, _, rfl, .inl ⟨_, rfl, ?_⟩⟩
      refine ⟨_, rfl, _, _, rfl, .inl ⟨_, SqL.of hc, rfl⟩, _, _, rfl, rfl, by omega, ?_⟩
      refine ⟨_, _, _, .int ns[j], rfl, rfl, SqL.of hc, ?_, _, _, rfl, rfl, rfl, _, rfl⟩
      rw [hj]
      exact atI_nat (by simp [hjl])
    · rintro σ' H' ⟨rfl, z, rfl⟩
      -- state[1] = nth + 1; state[3] = ..
      refine ⟨_, rfl, _, _, rfl, rfl, _, rfl, _, _, _, _, rfl, rfl, hs, rfl, ?_⟩
      refine ⟨fun σ' H1 => σ' = [some (.ref st), some (.ref c), some (.int n), some (.int z), none, none, none] ∧ ∃ b2, H1 = upd H' st (.lst [.ref c, .int (n + 1), .int v, .bl b2]), ?_, ?_⟩
      · refine ⟨_, rfl, _, rfl, _, _, rfl, .inl ⟨_, SqL.of (Eq.trans (upd_ne hne) hc), rfl⟩, _, _, rfl, rfl, _, rfl, ?_⟩
        refine ite2 (fun h0 => ?_) (fun _ => ?_)
        · exact ⟨_, rfl, _, _, _, _, rfl, rfl, upd_same, rfl, rfl, _, upd_upd⟩
        · refine ⟨_, rfl, _, _, rfl, rfl, ⟨by decide, by decide, by decide⟩, _, _, rfl, rfl, ?_⟩
          exact ⟨_, rfl, _, _, _, _, rfl, rfl, upd_same, rfl, rfl, _, upd_upd⟩
      · rintro σ' H1 ⟨rfl, b2, rfl⟩
        refine ⟨_, rfl, _, _, rfl, rfl, ⟨by decide, by decide, by decide⟩, _, _, rfl, rfl, _, rfl, _, _, _, _, rfl, rfl, upd_same, rfl, ?_⟩
        rw [upd_upd]
        refine ⟨_, rfl, _, _, _, _, rfl, rfl, SqL.of upd_same, rfl, _, rfl, ?_⟩
        refine ite2 (fun h0 => ?_) (fun _ => ?_)
        · refine ⟨_, rfl, _, _, _, _, rfl, rfl, upd_same, rfl, ?_⟩
          rw [upd_upd]
          refine ⟨by decide, fun tp htp => ⟨_, _, rfl, SqT.of upd_same, ?_⟩⟩
          have dr2 := (dr.put (n := n + 1) (v := 0) (b := b2) (by omega)).new (o := .tup [.int 2147483647, .int 2147483629, .int 2147483587, .int 2147483579, .int 2147483563]) htp
          refine for_it (walk_enumT (xs := [.int 2147483647, .int 2147483629, .int 2147483587, .int 2147483579, .int 2147483563])) (fun i σ H2 => (∃ o4 o5 o6, σ = [some (.ref st), some (.ref c), some (.int n), some (.int z), o4, o5, o6]) ∧ Drw H2 st c ns ∧ But st H' H2 ∧ H2 tp = some (.tup [.int 2147483647, .int 2147483629, .int 2147483587, .int 2147483579, .int 2147483563]))
            ⟨⟨_, _, _, rfl⟩, dr2, (But.refl _ _).upd.new htp, upd_same⟩ (fun i σ H2 _ q => SqT.of q.2.2.2) ?_ ?_
          · rintro i x σ H2 H3 hi ⟨⟨o4, o5, o6, rfl⟩, d2, b2', ht⟩ ⟨T2, i', pr, rfl, hT2, rfl, ei, ep⟩
            obtain rfl : V.int (i : Nat) = i' := Option.some.inj ei
            have hi5 : i < 5 := hi
            obtain ⟨q, rfl, q0, q1⟩ : ∃ q : Int, pr = .int q ∧ 0 < q ∧ q < 4294967296 := by
              have hh : i = 0 ∨ i = 1 ∨ i = 2 ∨ i = 3 ∨ i = 4 := by omega
              rcases hh with rfl | rfl | rfl | rfl | rfl <;> exact ⟨_, (Option.some.inj ep).symm, by decide, by decide⟩
            have d3 := d2.new (o := .tup [.int (i : Nat), .int q]) hT2
            obtain ⟨hc3, n3, v3, b3, n30, hs3⟩ := id d3
            have hst : st ≠ tp := ne_of d2.2.choose_spec.choose_spec.choose_spec.2 ht (by intro z; cases z)
            refine ⟨_, _, rfl, SqT.of upd_same, rfl, _, _, rfl, _, _, rfl, rfl, ?_⟩
            have mI : (-18446744073709551616 : Int) < (i : Int) ∧ (i : Int) < 18446744073709551616 := ⟨by omega, by omega⟩
            refine ⟨_, rfl, _, rfl, _, _, rfl, rfl, .inr mI, _, rfl, _, _, rfl, rfl, .inr mI, _, _, rfl, rfl, _, rfl, _, _, rfl, rfl, .inr mI, _, _, rfl, rfl, _, rfl, _, _, rfl, rfl, .inr mI, _, _, rfl, rfl, _, _, rfl, rfl, .inr ⟨by omega, by omega⟩, .inl ⟨_, rfl, ?_⟩⟩
            refine ⟨_, rfl, _, _, rfl, rfl, by omega, ?_⟩
            have pB : ∀ x : Int, (x.fmod q).natAbs < 2 ^ 64 := fun x => by
              have f0 := Int.fmod_nonneg_of_pos x q0
              have f1 := Int.fmod_lt_of_pos x q0
              omega
            refine ⟨_, rfl, _, _, _, _, rfl, rfl, SqL.of hs3, rfl, _, rfl, _, _, rfl, rfl, .inr ⟨by omega, by omega⟩, _, rfl, _, _, rfl, rfl, ⟨by decide, by decide, pB _⟩, .inl ⟨_, rfl, ?_⟩⟩
            refine ⟨_, rfl, _, _, rfl, rfl, by omega, _, _, rfl, rfl, _, rfl, _, _, _, _, rfl, rfl, hs3, rfl, ?_⟩
            exact ⟨⟨_, _, _, rfl⟩, d3.put n30, (b2'.new hT2).upd, by rw [upd_ne hst.symm, upd_ne (ne_of_none ht hT2)]; exact ht⟩
          · rintro σ H2 ⟨⟨o4, o5, o6, rfl⟩, d2, b2', ht⟩
            exact k _ d2 b2'
        · exact k _ (dr.put (by omega)) (But.refl _ _).upd
def spTake : Sp := fun vs H Q _ => ∃ (st c : Addr) (ns : List Int) (m : Int), vs = [.ref st, .int m] ∧ Drw H st c ns ∧ ns.length ≤ 63 ∧ 0 < m ∧ m ≤ 10000 ∧
  ∀ (d : Int) (H' : Hp), 0 ≤ d → d < m → Drw H' st c ns → But st H H' → Q (.int d) H'
theorem scTake : FnScope ["_law_state", "_law_many", "_law_turns", "_law_digit"] ["_law_state", "_law_many"] (defScope sTake) := ⟨rfl, rfl, rfl, by decide +kernel, rfl, by decide +kernel, by decide +kernel⟩
theorem pr_take (D : Df K mg "_law_take" sTake ["_law_state", "_law_many"]) (T : Tx mg) (PF : Pr P w K mg base 1 "_law_fill" ["_law_state"] spFill) : Pr P w K mg base 2 "_law_take" ["_law_state", "_law_many"] spTake := by
  refine D.pr scTake (fun vs H Q E h => ?_) (fun f cdv A outer s H vs Q E hr h => ?_)
  · obtain ⟨p, c, ns, m, rfl, _⟩ := h
    rfl
  · obtain ⟨st, c, ns, m, rfl, dr, hn, m0, m1, k⟩ := h
    have nd := scTake.nd
    refine ⟨_, (pss_cons (ps_asg pe_int (pg_name (i := 2) nd rfl (Or.inl rfl)))
      (Evl.pss_cut (ps_while PassesOwn.never (PW.pt (pw_and (pt_cmpR op_lt (pv 2) pe_int (nomark _)) (pw_and1 (PW.pt (pw_or (pt_cmpR op_eq (pe_ix ix_list (pv 0) pe_int (fun _ _ => rfl)) pe_int (nomark _)) (pw_or1 (PW.pt (pw_and (pt_val (pe_ix ix_list (pv 0) pe_int (fun _ _ => rfl))) (pw_and1 (pt_cmpR op_lt (pe_ix ix_list (pv 0) pe_int (fun _ _ => rfl)) (pe_op op_mul (pv 1) pe_int) (nomark _)))))))))))
        (pss_cons (ps_expr (pe_callP PF hr (by rfl) (pa_cons (pv 0) pa_nil)))
        (pss_cons (ps_aug (i := 2) nd rfl (Or.inl rfl) pe_int ip_add)
        (pss_one (ps_if (PW.pt (pw_and (pt_val (pe_ix ix_list (pv 0) pe_int (fun _ _ => rfl))) (pw_and1 (pt_cmpR op_lt (pe_ix ix_list (pv 0) pe_int (fun _ _ => rfl)) (pe_op op_mul (pv 1) pe_int) (nomark _)))))
          (pss_one (ps_asg (pe_op op_add (pe_ix ix_list (pv 0) pe_int (fun _ _ => rfl)) (pe_op op_mul (pe_op op_mul (pv 1) pe_int) (pe_op op_add pe_int (pe_op op_modN (pe_callTy call_int1 (by rfl) T.int (by decide +kernel) (pa_cons (pe_ix ix_list (pv 0) pe_int (fun _ _ => rfl)) pa_nil)) pe_int)))) (pg_sub (pv 0) pe_int set_list)))
          pss_nil)))))
      (pss_cons (ps_asg (pe_op op_modN (pe_callTy call_int1 (by rfl) T.int (by decide +kernel) (pa_cons (pe_ix ix_list (pv 0) pe_int (fun _ _ => rfl)) pa_nil)) (pv 1)) (pg_name (i := 3) nd rfl (Or.inl rfl)))
      (pss_cons (ps_asg (pe_op op_fdivN (pe_ix ix_list (pv 0) pe_int (fun _ _ => rfl)) (pv 1)) (pg_sub (pv 0) pe_int set_list))
      (pss_one (ps_ret (pv 3))))))), ?_⟩
    refine ⟨fun σ' H1 => ∃ (t : Int) (o3 : Option V), σ' = [some (.ref st), some (.int m), some (.int t), o3] ∧ Drw H1 st c ns ∧ But st H H1, ?_, ?_⟩
    · refine ⟨fun j σ H1 => ∃ (t : Int) (o3 : Option V), σ = [some (.ref st), some (.int m), some (.int t), o3] ∧ 0 ≤ t ∧ (j : Int) = 64 - t ∧ Drw H1 st c ns ∧ But st H H1, ⟨64, 0, _, rfl, by decide, rfl, dr, But.refl _ _⟩, ?_⟩
      rintro j σ H1 ⟨t, o3, rfl, t0, hj, d1, b1⟩
      obtain ⟨hc, n, v, b, n0, hs⟩ := id d1
      refine ⟨_, rfl, _, _, rfl, rfl, _, rfl, ?_⟩
      refine ite2 (fun ht => ?_) (fun _ => ?_)
      · have ht' : t < 64 := of_decide_eq_true ht
        refine tt_any (fun K' kT kF => ?_) ?_ ?_
        · refine ⟨_, rfl, _, _, _, _, rfl, rfl, SqL.of hs, rfl, rfl, _, rfl, ?_⟩
          refine ite2 (fun _ => kT) (fun _ => ?_)
          refine ⟨_, rfl, _, _, _, _, rfl, rfl, SqL.of hs, rfl, _, rfl, ?_⟩
          refine ite2 (fun _ => ?_) (fun _ => kF)
          refine ⟨_, rfl, _, _, _, _, rfl, rfl, SqL.of hs, rfl, _, rfl, _, _, rfl, rfl, .inr ⟨by decide, by decide⟩, _, _, rfl, rfl, _, rfl, ?_⟩
          exact ite3 (fun _ => kT) (fun _ => kF)
        · refine iteT ⟨fun σ' H2 => ∃ o3', σ' = [some (.ref st), some (.int m), some (.int (t + 1)), o3'] ∧ Drw H2 st c ns ∧ But st H H2, fun σ' H2 ⟨o3', e, d2, b2⟩ => ⟨j - 1, by omega, t + 1, o3', e, by omega, by omega, d2, b2⟩, ?_⟩
          refine ⟨_, rfl, st, c, ns, rfl, d1, hn, fun H2 d2 b2 => ?_⟩
          obtain ⟨hc2, n2, v2, w2, n20, hs2⟩ := id d2
          refine ⟨_, rfl, _, _, rfl, rfl, ?_⟩
          dsimp only
          unfold tIfS
          refine tt_any (fun K' kT kF => ?_) ?_ ?_
          · refine ⟨_, rfl, _, _, _, _, rfl, rfl, SqL.of hs2, rfl, _, rfl, ?_⟩
            refine ite2 (fun _ => ?_) (fun _ => kF)
            refine ⟨_, rfl, _, _, _, _, rfl, rfl, SqL.of hs2, rfl, _, rfl, _, _, rfl, rfl, .inr ⟨by decide, by decide⟩, _, _, rfl, rfl, _, rfl, ?_⟩
            exact ite3 (fun _ => kT) (fun _ => kF)
          · refine iteT ?_
            refine ⟨_, rfl, _, _, _, _, rfl, rfl, SqL.of hs2, rfl, _, rfl, _, _, rfl, rfl, .inr ⟨by decide, by decide⟩, ?_⟩
            refine ⟨_, rfl, _, _, _, _, rfl, rfl, SqL.of hs2, rfl, .inl ⟨_, rfl, ?_⟩⟩
            refine ⟨_, _, rfl, rfl, (by show (4093 : Int) ≠ 0; decide), _, _, rfl, rfl, _, _, rfl, rfl, .inl ⟨by omega, by omega⟩, _, _, rfl, rfl, _, rfl, _, _, _, _, rfl, rfl, hs2, rfl, ?_⟩
            exact ⟨_, rfl, d2.put n20, (b1.trans b2).upd⟩
          · refine iteF ?_
            exact ⟨_, rfl, d2, b1.trans b2⟩
        · exact iteF ⟨_, _, rfl, d1, b1⟩
      · exact iteF ⟨_, _, rfl, d1, b1⟩
    · rintro σ' H1 ⟨t, o3, rfl, d1, b1⟩
      obtain ⟨hc, n, v, b, n0, hs⟩ := id d1
      refine ⟨_, rfl, _, _, _, _, rfl, rfl, SqL.of hs, rfl, .inl ⟨_, rfl, ?_⟩⟩
      refine ⟨_, rfl, _, _, rfl, rfl, by omega, ?_⟩
      refine ⟨_, rfl, _, _, _, _, rfl, rfl, SqL.of hs, rfl, _, rfl, _, _, rfl, rfl, ⟨by omega, by omega⟩, _, rfl, _, _, _, _, rfl, rfl, hs, rfl, ?_⟩
      exact ⟨_, rfl, k _ _ (Int.fmod_nonneg_of_pos _ m0) (Int.fmod_lt_of_pos _ m0) (d1.put n0) b1.upd⟩
/-- one of the things of a list or tuple -/
def spOne (K : PySem.W.Frag) : Sp := fun vs H Q _ => ∃ (st c a : Addr) (ns : List Int) (xs : List V), vs = [.ref st, .ref a] ∧ Drw H st c ns ∧ ns.length ≤ 63 ∧ a ≠ st ∧ (SqL K H a xs ∨ SqT K H a xs) ∧ 0 < xs.length ∧ xs.length ≤ 10000 ∧
  ∀ (x : V) (H' : Hp), x ∈ xs → Drw H' st c ns → But st H H' → Q x H'
theorem scOne : FnScope ["_law_state", "_law_things"] ["_law_state", "_law_things"] (defScope sOne) := ⟨rfl, rfl, rfl, by decide +kernel, rfl, by decide +kernel, by decide +kernel⟩
theorem pr_one (D : Df K mg "_law_one" sOne ["_law_state", "_law_things"]) (T : Tx mg) (PT : Pr P w K mg base 2 "_law_take" ["_law_state", "_law_many"] spTake) : Pr P w K mg base 3 "_law_one" ["_law_state", "_law_things"] (spOne K) := by
  refine D.pr scOne (fun vs H Q E h => ?_) (fun f cdv A outer s H vs Q E hr h => ?_)
  · obtain ⟨p, c, a, ns, xs, rfl, _⟩ := h
    rfl
  · obtain ⟨st, c, a, ns, xs, rfl, dr, hn, hne, hx, x0, x1, k⟩ := h
    refine ⟨_, (pss_one (ps_ret (pe_ix ix_seq (pv 1) (pe_callP PT hr (by rfl) (pa_cons (pv 0) (pa_cons (pe_callB call_len (by rfl) T.len PySem.boot_len (pa_cons (pv 1) pa_nil)) pa_nil))) (fun _ _ => rfl)))), ?_⟩
    refine ⟨_, rfl, _, rfl, _, rfl, _, xs.length, rfl, ?_, ?_⟩
    · rcases hx with h | h
      · exact .inl ⟨_, h, rfl⟩
      · exact .inr ⟨_, h, rfl⟩
    · refine ⟨st, c, ns, _, rfl, dr, hn, by omega, by omega, fun d H' d0 d1 dr' bt => ?_⟩
      obtain ⟨j, rfl⟩ := Int.eq_ofNat_of_zero_le d0
      have hj : j < xs.length := by omega
      rcases hx with h | h
      · exact .inl ⟨_, _, _, _, rfl, rfl, My.But.sqL bt hne h, atI_nat (List.getElem?_eq_getElem hj), k _ _ (List.getElem_mem hj) dr' bt⟩
      · exact .inr (.inl ⟨_, _, _, _, rfl, rfl, My.But.sqT bt hne h, atI_nat (List.getElem?_eq_getElem hj), k _ _ (List.getElem_mem hj) dr' bt⟩)
def spFresh (K : PySem.W.Frag) : Sp := fun vs H Q _ => ∃ (a : Addr) (ns : List Int), vs = [.ref a] ∧ SqL K H a (ns.map V.int) ∧ ns.length ≤ 63 ∧
  ∀ (st c : Addr) (H' : Hp), H st = none → H c = none → Drw H' st c ns → Same H H' → Q (.ref st) H'
theorem scFresh : FnScope ["_law_script_here"] ["_law_script_here"] (defScope sFresh) := ⟨rfl, rfl, rfl, by decide +kernel, rfl, by decide +kernel, by decide +kernel⟩
theorem pr_fresh (D : Df K mg "_law_fresh" sFresh ["_law_script_here"]) : Pr P w K mg base 1 "_law_fresh" ["_law_script_here"] (spFresh K) := by
  refine D.pr scFresh (fun vs H Q E h => ?_) (fun f cdv A outer s H vs Q E hr h => ?_)
  · obtain ⟨a, ns, rfl, _⟩ := h
    rfl
  · obtain ⟨a, ns, rfl, ha, hn, k⟩ := h
    refine ⟨_, (pss_one (ps_ret (pe_lst (pa_cons (pe_slice sl_list (pv 0) po_none (po_some pe_int)) (pa_cons pe_int (pa_cons pe_int (pa_cons pe_bl pa_nil))))))), ?_⟩
    refine ⟨_, rfl, _, rfl, _, _, rfl, ha, fun c hc => ⟨(by show 4 ≤ sizeLine; decide), fun st hst => ?_⟩⟩
    have e : cutV (ns.map V.int) none (some 63) = ns.map V.int := by
      have h1 : HT.sIx (ns.map V.int).length 0 none = 0 := rfl
      have h2 : (ns.map V.int).length ≤ HT.sIx (ns.map V.int).length (ns.map V.int).length (some 63) := by
        rw [List.length_map]
        show ns.length ≤ HT.sIx ns.length ns.length (some 63)
        unfold HT.sIx
        simp
        omega
      unfold cutV
      rw [h1, List.drop_zero, Nat.sub_zero, List.take_of_length_le h2]
    have hst0 : H st = none := by
      by_cases q : st = c
      · rw [q, upd_same] at hst
        cases hst
      · rw [upd_ne q] at hst
        exact hst
    refine k st c _ hst0 hc ⟨?_, 0, 0, false, by decide, upd_same⟩ fun b o hb => ?_
    · rw [upd_ne (ne_of_none upd_same hst), upd_same, e]
    · rw [upd_ne (ne_of_none hb hst0), upd_ne (ne_of_none hb hc)]
      exact hb
end
end C78

set_option Elab.async false
set_option maxRecDepth 100000
set_option maxHeartbeats 4000000
set_option linter.all false
namespace C78
open PySem L2 My
abbrev sSame : Stmt := top 30
structure Ty (mg : Str → Option Value) : Prop where
  len : mg "len" = none
  int : mg "int" = none
  bool : mg "bool" = none
  list : mg "list" = none
  tuple : mg "tuple" = none
  isinstance : mg "isinstance" = none
  all : mg "all" = none
  zip : mg "zip" = none
def spS : Nat → Sp
  | 0 => fun _ _ _ _ => False
  | n + 1 => spSame n
section
variable {P : Program} {w : World} {K : PySem.W.Frag} {mg : Str → Option Value} {base : Heap}
abbrev nSame : List Str := ["_law_found", "_law_due", "_law_a", "_law_b"]
theorem scSame : FnScope nSame ["_law_found", "_law_due"] (defScope sSame) := ⟨rfl, rfl, rfl, by decide +kernel, rfl, by decide +kernel, by decide +kernel⟩
theorem step_same {n : Nat} (D : Df K mg "_law_same" sSame ["_law_found", "_law_due"]) (T : Ty mg) (PS : Pr P w K mg base n "_law_same" ["_law_found", "_law_due"] (spS n)) : Pr P w K mg base (n + 1) "_law_same" ["_law_found", "_law_due"] (spSame n) := by
  refine D.pr scSame (fun vs H Q E h => ?_) (fun f cdv A outer s H vs Q E hr h => ?_)
  · obtain ⟨m, x, y, d, o, rfl, _⟩ := h
    rfl
  · obtain ⟨m, x, y, d, o, rfl, hm, hx, hy, lv, k⟩ := h
    have nd := scSame.nd
    refine ⟨_, (pss_cons (ps_if (pt_val (pe_callB call_isiT (by rfl) T.isinstance (by decide +kernel) (pa_cons (pv 1) (pa_cons (pe_tup (pa_cons (pe_bltn (v := .ty "list") (by rfl) T.list (by decide +kernel) rfl) (pa_cons (pe_bltn (v := .ty "tuple") (by rfl) T.tuple (by decide +kernel) rfl) pa_nil))) pa_nil))))
        (pss_cons (ps_if (PW.pt (pw_or (pt_cmpR op_ne (pe_callB call_isi (by rfl) T.isinstance (by decide +kernel) (pa_cons (pv 0) (pa_cons (pe_bltn (v := .ty "list") (by rfl) T.list (by decide +kernel) rfl) pa_nil))) (pe_callB call_isi (by rfl) T.isinstance (by decide +kernel) (pa_cons (pv 1) (pa_cons (pe_bltn (v := .ty "list") (by rfl) T.list (by decide +kernel) rfl) pa_nil))) (nomark _)) (pw_or1 (pt_cmpR op_ne (pe_callB call_isi (by rfl) T.isinstance (by decide +kernel) (pa_cons (pv 0) (pa_cons (pe_bltn (v := .ty "tuple") (by rfl) T.tuple (by decide +kernel) rfl) pa_nil))) (pe_callB call_isi (by rfl) T.isinstance (by decide +kernel) (pa_cons (pv 1) (pa_cons (pe_bltn (v := .ty "tuple") (by rfl) T.tuple (by decide +kernel) rfl) pa_nil))) (nomark _)))))
          (pss_one (ps_ret pe_bl))
          pss_nil)
        (pss_one (ps_ret (pe_and (pe_cmpR op_eq (pe_callB call_len (by rfl) T.len PySem.boot_len (pa_cons (pv 0) pa_nil)) (pe_callB call_len (by rfl) T.len PySem.boot_len (pa_cons (pv 1) pa_nil)) (nomark _)) (pe_one (pe_callB (cr_all rfl) (by rfl) T.all (by decide +kernel) (pa_cons (pe_lc (own := [("_law_a", 2), ("_law_b", 3)]) (g := gTup K 2 (gCons (gName 2) (gCons (gName 3) gNil))) (tt := tYes) (by rfl) nd (RZ.pi_zipA (by rfl) T.zip (pa_cons (pv 0) (pa_cons (pv 1) pa_nil)))
  (blkOk_by (own := [("_law_a", 2), ("_law_b", 3)]) (N := nSame) (sc := defScope sSame) (by decide +kernel))
  (fun _ _ _ _ _ => pg_tup rfl (pgs_cons (pg_name (i := 2) nd rfl (Or.inl rfl) (Or.inr rfl)) (pgs_cons (pg_name (i := 3) nd rfl (Or.inl rfl) (Or.inr rfl)) pgs_nil))) (fun _ _ _ _ _ => pts_nil)
  (fun _ _ _ _ _ => (pe_callP PS hr (by rfl) (pa_cons (pv 2) (pa_cons (pv 3) pa_nil))))) pa_nil)))))))
        pss_nil)
      (pss_cons (ps_if (pt_val (pe_callB call_isi (by rfl) T.isinstance (by decide +kernel) (pa_cons (pv 1) (pa_cons (pe_bltn (v := .ty "int") (by rfl) T.int (by decide +kernel) rfl) pa_nil))))
        (pss_one (ps_ret (pe_and (pe_callB call_isi (by rfl) T.isinstance (by decide +kernel) (pa_cons (pv 0) (pa_cons (pe_bltn (v := .ty "int") (by rfl) T.int (by decide +kernel) rfl) pa_nil))) (pe_and (pe_cmpR op_eq (pe_callB call_isi (by rfl) T.isinstance (by decide +kernel) (pa_cons (pv 0) (pa_cons (pe_bltn (v := .ty "bool") (by rfl) T.bool (by decide +kernel) rfl) pa_nil))) (pe_callB call_isi (by rfl) T.isinstance (by decide +kernel) (pa_cons (pv 1) (pa_cons (pe_bltn (v := .ty "bool") (by rfl) T.bool (by decide +kernel) rfl) pa_nil))) (nomark _)) (pe_one (pe_cmpR op_eq (pv 0) (pv 1) (nomark _)))))))
        pss_nil)
      (pss_one (ps_ret (pe_and (pe_cmpR op_isBl (pe_callB call_isiT (by rfl) T.isinstance (by decide +kernel) (pa_cons (pv 0) (pa_cons (pe_tup (pa_cons (pe_bltn (v := .ty "bool") (by rfl) T.bool (by decide +kernel) rfl) (pa_cons (pe_bltn (v := .ty "int") (by rfl) T.int (by decide +kernel) rfl) (pa_cons (pe_bltn (v := .ty "list") (by rfl) T.list (by decide +kernel) rfl) (pa_cons (pe_bltn (v := .ty "tuple") (by rfl) T.tuple (by decide +kernel) rfl) pa_nil))))) pa_nil))) pe_bl (nomark _)) (pe_one (pe_cmpR op_eq (pv 0) (pv 1) (nomark _)))))))), ?_⟩
    refine ⟨_, rfl, (by show 2 ≤ sizeLine; decide), fun tp htp => ?_⟩
    have s1 : Same H (upd H tp (.tup [.ty "list", .ty "tuple"])) := fun b o e => by
      rw [upd_ne (ne_of_none e htp)]
      exact e
    have hx1 := hx.mono (Same.but s1)
    have hy1 := hy.mono (Same.but s1)
    have hxs : ∀ H', Same H H' → At m H' x d := fun H' s => hx.mono (Same.but s)
    cases lv with
    | non n =>
      cases hx
      cases hy
      refine ⟨_, _, _, _, _, false, rfl, upd_same, cls_all ["list", "tuple"], (hy1).ty, kit_any k_NoneType_lt, ?_⟩
      refine ⟨_, rfl, iteF ?_⟩
      refine ⟨_, rfl, ?_⟩
      refine ⟨_, _, _, _, false, rfl, .ty _, hy1.ty, kit_ty k_NoneType_int, ?_⟩
      refine ⟨_, rfl, iteF ?_⟩
      refine ⟨_, rfl, (by show 4 ≤ sizeLine; decide), fun tq htq => ?_⟩
      have s2 : Same H (upd (upd H tp (.tup [.ty "list", .ty "tuple"])) tq (.tup [.ty "bool", .ty "int", .ty "list", .ty "tuple"])) := fun b o e => by
        rw [upd_ne (ne_of_none (s1 _ _ e) htq)]
        exact s1 _ _ e
      refine ⟨_, _, _, _, _, false, rfl, upd_same, cls_all ["bool", "int", "list", "tuple"], (hxs _ s2).ty, kit_any k_NoneType_bilt, ?_⟩
      refine ⟨_, _, rfl, rfl, _, rfl, iteT ?_⟩
      refine ⟨_, rfl, _, rfl, rfl, ?_⟩
      rw [decide_eq_true rfl]
      exact k _ s2
    | bl n b =>
      cases hx
      cases hy
      refine ⟨_, _, _, _, _, false, rfl, upd_same, cls_all ["list", "tuple"], (hy1).ty, kit_any k_bool_lt, ?_⟩
      refine ⟨_, rfl, iteF ?_⟩
      refine ⟨_, rfl, ?_⟩
      refine ⟨_, _, _, _, true, rfl, .ty _, hy1.ty, kit_ty k_bool_int, ?_⟩
      refine ⟨_, rfl, iteT ?_⟩
      refine ⟨_, rfl, ?_⟩
      refine ⟨_, _, _, _, true, rfl, .ty _, hx1.ty, kit_ty k_bool_int, ?_⟩
      refine ⟨_, rfl, iteT ?_⟩
      refine ⟨_, rfl, ?_⟩
      refine ⟨_, _, _, _, true, rfl, .ty _, hx1.ty, kit_ty k_bool_bool, ?_⟩
      refine ⟨_, rfl, ?_⟩
      refine ⟨_, _, _, _, true, rfl, .ty _, hy1.ty, kit_ty k_bool_bool, ?_⟩
      refine ⟨rfl, _, rfl, iteT ?_⟩
      refine ⟨_, rfl, _, rfl, rfl, ?_⟩
      rw [decide_eq_true rfl]
      exact k _ s1
    | int n i =>
      cases hx
      cases hy
      refine ⟨_, _, _, _, _, false, rfl, upd_same, cls_all ["list", "tuple"], (hy1).ty, kit_any k_int_lt, ?_⟩
      refine ⟨_, rfl, iteF ?_⟩
      refine ⟨_, rfl, ?_⟩
      refine ⟨_, _, _, _, true, rfl, .ty _, hy1.ty, kit_ty k_int_int, ?_⟩
      refine ⟨_, rfl, iteT ?_⟩
      refine ⟨_, rfl, ?_⟩
      refine ⟨_, _, _, _, true, rfl, .ty _, hx1.ty, kit_ty k_int_int, ?_⟩
      refine ⟨_, rfl, iteT ?_⟩
      refine ⟨_, rfl, ?_⟩
      refine ⟨_, _, _, _, false, rfl, .ty _, hx1.ty, kit_ty k_int_bool, ?_⟩
      refine ⟨_, rfl, ?_⟩
      refine ⟨_, _, _, _, false, rfl, .ty _, hy1.ty, kit_ty k_int_bool, ?_⟩
      refine ⟨rfl, _, rfl, iteT ?_⟩
      refine ⟨_, rfl, _, rfl, rfl, ?_⟩
      rw [decide_eq_true rfl]
      exact k _ s1
    | str n z =>
      cases hx
      cases hy
      refine ⟨_, _, _, _, _, false, rfl, upd_same, cls_all ["list", "tuple"], (hy1).ty, kit_any k_str_lt, ?_⟩
      refine ⟨_, rfl, iteF ?_⟩
      refine ⟨_, rfl, ?_⟩
      refine ⟨_, _, _, _, false, rfl, .ty _, hy1.ty, kit_ty k_str_int, ?_⟩
      refine ⟨_, rfl, iteF ?_⟩
      refine ⟨_, rfl, (by show 4 ≤ sizeLine; decide), fun tq htq => ?_⟩
      have s2 : Same H (upd (upd H tp (.tup [.ty "list", .ty "tuple"])) tq (.tup [.ty "bool", .ty "int", .ty "list", .ty "tuple"])) := fun b o e => by
        rw [upd_ne (ne_of_none (s1 _ _ e) htq)]
        exact s1 _ _ e
      refine ⟨_, _, _, _, _, false, rfl, upd_same, cls_all ["bool", "int", "list", "tuple"], (hxs _ s2).ty, kit_any k_str_bilt, ?_⟩
      refine ⟨_, _, rfl, rfl, _, rfl, iteT ?_⟩
      refine ⟨_, rfl, _, rfl, rfl, ?_⟩
      rw [decide_eq_true rfl]
      exact k _ s2
    | lst sz lv0 =>
      rename_i n0 ds0
      obtain ⟨a, xs, nx, ex, qx⟩ : ∃ a xs, a ≠ m ∧ (x = .ref a ∧ H a = some (.lst xs)) ∧ AtAll m H xs ds0 := by
        cases hx with
        | lst n0 h0 q0 => exact ⟨_, _, n0, ⟨rfl, h0⟩, q0⟩
      obtain ⟨b, ys, ny, ey, qy⟩ : ∃ b ys, b ≠ m ∧ (y = .ref b ∧ H b = some (.lst ys)) ∧ AtAll m H ys ds0 := by
        cases hy with
        | lst n0 h0 q0 => exact ⟨_, _, n0, ⟨rfl, h0⟩, q0⟩
      obtain ⟨rfl, ex⟩ := ex
      obtain ⟨rfl, ey⟩ := ey
      have lx := qx.length
      have ly := qy.length
      refine ⟨_, _, _, _, _, true, rfl, upd_same, cls_all ["list", "tuple"], (hy1).ty, kit_any k_list_lt, ?_⟩
      refine ⟨_, rfl, iteT ?_⟩
      refine ⟨_, rfl, ?_⟩
      refine ⟨_, _, _, _, true, rfl, .ty _, hx1.ty, kit_ty k_list_list, ?_⟩
      refine ⟨_, rfl, ?_⟩
      refine ⟨_, _, _, _, true, rfl, .ty _, hy1.ty, kit_ty k_list_list, ?_⟩
      refine ⟨rfl, _, rfl, iteF ?_⟩
      refine ⟨_, rfl, ?_⟩
      refine ⟨_, _, _, _, false, rfl, .ty _, hx1.ty, kit_ty k_list_tuple, ?_⟩
      refine ⟨_, rfl, ?_⟩
      refine ⟨_, _, _, _, false, rfl, .ty _, hy1.ty, kit_ty k_list_tuple, ?_⟩
      refine ⟨rfl, _, rfl, iteF ?_⟩
      refine ⟨_, rfl, _, _, rfl, .inl ⟨_, SqL.of (s1 _ _ ex), rfl⟩, _, rfl, _, _, rfl, .inl ⟨_, SqL.of (s1 _ _ ey), rfl⟩, rfl, ?_⟩
      have el : decide (V.int (xs.length : Int) = V.int (ys.length : Int)) = true := decide_eq_true (by rw [lx, ly])
      refine ⟨true, congrArg V.bl el, iteT ?_⟩
      refine ⟨_, rfl, _, rfl, _, _, _, _, rfl, .inl ⟨SqL.of (s1 _ _ ex), SqL.of (s1 _ _ ey), ?_⟩⟩
      intro Dl hD
      refine lc_it (walk_zipL (lx.trans ly.symm)) (fun i H2 => Same H H2 ∧ H Dl = none ∧ H2 Dl = some (.lst ((List.replicate i true).map V.bl))) ?_ ?_ ?_ ?_
      · exact ⟨fun b o e => by rw [upd_ne (ne_of_none (s1 _ _ e) hD)]; exact s1 _ _ e, s1.free hD, upd_same⟩
      · exact fun i H2 _ q => ⟨SqL.of (q.1 _ _ ex), SqL.of (q.1 _ _ ey)⟩
      · rintro i z H2 H3 hi ⟨sm, nD, hl⟩ ⟨T2, u, v, rfl, hT2, rfl, eu, ev⟩
        have nDT : Dl ≠ T2 := ne_of_none hl hT2
        have s3 : Same H (upd H2 T2 (.tup [u, v])) := fun b o e => by
          rw [upd_ne (ne_of_none (sm _ _ e) hT2)]
          exact sm _ _ e
        obtain ⟨du, e1, au⟩ := qx.get eu
        obtain ⟨dv, e2, av⟩ := qy.get ev
        obtain rfl : du = dv := Option.some.inj (e1.symm.trans e2)
        refine ⟨_, _, rfl, SqT.of upd_same, rfl, _, _, rfl, _, _, rfl, rfl, rfl, ?_⟩
        refine ⟨_, rfl, _, rfl, m, u, v, du, o, rfl, s3 _ _ hm, au.mono (Same.but s3), av.mono (Same.but s3), lv0 _ (List.mem_of_getElem? e1), fun H4 s4 => ?_⟩
        refine ⟨_, s4 _ _ (by rw [upd_ne nDT]; exact hl), ?_, ?_⟩
        · rw [List.length_map, List.length_replicate]
          exact small6 (by omega)
        · refine ⟨fun b o e => ?_, nD, ?_⟩
          · rw [upd_ne (ne_of_none e nD)]
            exact s4 _ _ (s3 _ _ e)
          · rw [upd_same, List.replicate_succ', List.map_append]
            rfl
      · rintro H2 ⟨sm, nD, hl⟩
        refine ⟨_, _, rfl, SqL.of hl, ?_⟩
        have ea : (List.replicate xs.length true).all id = true := by
          rw [List.all_eq_true]
          intro b hb
          rw [List.eq_of_mem_replicate hb]
          rfl
        rw [ea]
        exact k _ sm
    | tup sz lv0 =>
      rename_i n0 ds0
      obtain ⟨a, xs, nx, ex, qx⟩ : ∃ a xs, a ≠ m ∧ (x = .ref a ∧ H a = some (.tup xs)) ∧ AtAll m H xs ds0 := by
        cases hx with
        | tup n0 h0 q0 => exact ⟨_, _, n0, ⟨rfl, h0⟩, q0⟩
      obtain ⟨b, ys, ny, ey, qy⟩ : ∃ b ys, b ≠ m ∧ (y = .ref b ∧ H b = some (.tup ys)) ∧ AtAll m H ys ds0 := by
        cases hy with
        | tup n0 h0 q0 => exact ⟨_, _, n0, ⟨rfl, h0⟩, q0⟩
      obtain ⟨rfl, ex⟩ := ex
      obtain ⟨rfl, ey⟩ := ey
      have lx := qx.length
      have ly := qy.length
      refine ⟨_, _, _, _, _, true, rfl, upd_same, cls_all ["list", "tuple"], (hy1).ty, kit_any k_tuple_lt, ?_⟩
      refine ⟨_, rfl, iteT ?_⟩
      refine ⟨_, rfl, ?_⟩
      refine ⟨_, _, _, _, false, rfl, .ty _, hx1.ty, kit_ty k_tuple_list, ?_⟩
      refine ⟨_, rfl, ?_⟩
      refine ⟨_, _, _, _, false, rfl, .ty _, hy1.ty, kit_ty k_tuple_list, ?_⟩
      refine ⟨rfl, _, rfl, iteF ?_⟩
      refine ⟨_, rfl, ?_⟩
      refine ⟨_, _, _, _, true, rfl, .ty _, hx1.ty, kit_ty k_tuple_tuple, ?_⟩
      refine ⟨_, rfl, ?_⟩
      refine ⟨_, _, _, _, true, rfl, .ty _, hy1.ty, kit_ty k_tuple_tuple, ?_⟩
      refine ⟨rfl, _, rfl, iteF ?_⟩
      refine ⟨_, rfl, _, _, rfl, .inr ⟨_, SqT.of (s1 _ _ ex), rfl⟩, _, rfl, _, _, rfl, .inr ⟨_, SqT.of (s1 _ _ ey), rfl⟩, rfl, ?_⟩
      have el : decide (V.int (xs.length : Int) = V.int (ys.length : Int)) = true := decide_eq_true (by rw [lx, ly])
      refine ⟨true, congrArg V.bl el, iteT ?_⟩
      refine ⟨_, rfl, _, rfl, _, _, _, _, rfl, .inr ⟨SqT.of (s1 _ _ ex), SqT.of (s1 _ _ ey), ?_⟩⟩
      intro Dl hD
      refine lc_it (walk_zipT (lx.trans ly.symm)) (fun i H2 => Same H H2 ∧ H Dl = none ∧ H2 Dl = some (.lst ((List.replicate i true).map V.bl))) ?_ ?_ ?_ ?_
      · exact ⟨fun b o e => by rw [upd_ne (ne_of_none (s1 _ _ e) hD)]; exact s1 _ _ e, s1.free hD, upd_same⟩
      · exact fun i H2 _ q => ⟨SqT.of (q.1 _ _ ex), SqT.of (q.1 _ _ ey)⟩
      · rintro i z H2 H3 hi ⟨sm, nD, hl⟩ ⟨T2, u, v, rfl, hT2, rfl, eu, ev⟩
        have nDT : Dl ≠ T2 := ne_of_none hl hT2
        have s3 : Same H (upd H2 T2 (.tup [u, v])) := fun b o e => by
          rw [upd_ne (ne_of_none (sm _ _ e) hT2)]
          exact sm _ _ e
        obtain ⟨du, e1, au⟩ := qx.get eu
        obtain ⟨dv, e2, av⟩ := qy.get ev
        obtain rfl : du = dv := Option.some.inj (e1.symm.trans e2)
        refine ⟨_, _, rfl, SqT.of upd_same, rfl, _, _, rfl, _, _, rfl, rfl, rfl, ?_⟩
        refine ⟨_, rfl, _, rfl, m, u, v, du, o, rfl, s3 _ _ hm, au.mono (Same.but s3), av.mono (Same.but s3), lv0 _ (List.mem_of_getElem? e1), fun H4 s4 => ?_⟩
        refine ⟨_, s4 _ _ (by rw [upd_ne nDT]; exact hl), ?_, ?_⟩
        · rw [List.length_map, List.length_replicate]
          exact small6 (by omega)
        · refine ⟨fun b o e => ?_, nD, ?_⟩
          · rw [upd_ne (ne_of_none e nD)]
            exact s4 _ _ (s3 _ _ e)
          · rw [upd_same, List.replicate_succ', List.map_append]
            rfl
      · rintro H2 ⟨sm, nD, hl⟩
        refine ⟨_, _, rfl, SqL.of hl, ?_⟩
        have ea : (List.replicate xs.length true).all id = true := by
          rw [List.all_eq_true]
          intro b hb
          rw [List.eq_of_mem_replicate hb]
          rfl
        rw [ea]
        exact k _ sm
theorem pr_same (D : Df K mg "_law_same" sSame ["_law_found", "_law_due"]) (T : Ty mg) : ∀ n, Pr P w K mg base n "_law_same" ["_law_found", "_law_due"] (spS n)
  | 0 => by
    obtain ⟨f, fd, F, b, g⟩ := D
    exact ⟨f, fd, ⟨fun _ _ _ _ h => h.elim, fun _ _ _ _ _ _ _ _ _ _ _ _ _ h => h.elim⟩, g, F.kp, b⟩
  | n + 1 => step_same D T (pr_same D T n)
end
end C78

set_option Elab.async false
set_option maxRecDepth 100000
set_option maxHeartbeats 4000000
set_option linter.all false
/-! max(xs, default=z) of a list of ints -/
namespace My
open PySem PySem.Spec PyProof.Rows L2
def topOf (z : Int) : List Int → Int
  | [] => z
  | n :: r => r.foldl max n
def rMaxD (K : PySem.W.Frag) : List V → List V → Hp → VK → Prop := fun xs zs H Q => ∃ (a : Addr) (ns : List Int) (z : Int), xs = [.ref a] ∧ zs = [.int z] ∧ SqL K H a (ns.map V.int) ∧ Q (.int (topOf z ns)) H
theorem ints_reads {h : Heap} : ∀ {ns : List Int} {us : List Value}, Vals (ns.map V.int) us → ReadsAll h us (ns.map PyData.int) []
  | [], _, .nil => .nil
  | n :: r, _, .cons e q => by
    obtain ⟨t, rfl⟩ := e
    exact .cons (.int n t) (ints_reads q)
theorem ints_alike (ns : List Int) : PySem.W.AlikeAll (ns.map PyData.int) := by
  refine ⟨fun x hx y hy => ?_, fun x hx => ?_⟩
  · obtain ⟨i, _, rfl⟩ := List.mem_map.mp hx
    obtain ⟨j, _, rfl⟩ := List.mem_map.mp hy
    simp [PySem.W.alike]
  · obtain ⟨i, _, rfl⟩ := List.mem_map.mp hx
    exact fun z => nomatch z
theorem ints_depth : ∀ ns : List Int, PyData.depthAll (ns.map PyData.int) ≤ 1
  | [] => Nat.zero_le _
  | n :: r => by
    have := ints_depth r
    simp [PyData.depthAll, PyData.depth]
    omega
theorem cr_maxD {X : Cx} (hc : X.calm = true) (hu : X.A.units + 64 < cLine) : CallRK X (.builtin "max") ["default"] (rMaxD X.K) := by
  intro pins s σ H xs zs us ws Q I rx rz h
  obtain ⟨a, ns, z, rfl, rfl, hq, q⟩ := h
  cases rz with
  | cons rz1 rr =>
    cases rr
    obtain ⟨tz, rfl⟩ := rz1
    rw [Vals.ref1 rx]
    obtain ⟨its, rv, hl, _⟩ := I.list hq
    have hd := ints_depth ns
    refine PySem.W.max_list_default (I.ok.hd hc) hl.isList (xs := ns.map PyData.int) (by simpa using ints_reads rv) (ints_alike ns) (by omega) (fun e h' tk hk => ?_) (fun y ys i v h' tk bs e hv rd hk => ?_)
    · cases ns with
      | nil => exact ⟨.int z, H, I.kept (t' := tk) hk, ⟨_, rfl⟩, q⟩
      | cons n r => cases e
    · cases ns with
      | nil => cases e
      | cons n r =>
        injection e with e1 e2
        subst e1 e2
        rw [PySem.W.maxD_ints] at rd
        cases rd
        exact ⟨.int _, H, I.kept (t' := tk) hk, ⟨_, rfl⟩, q⟩
end My

set_option Elab.async false
set_option maxRecDepth 100000
set_option linter.all false
/-! The mirror of the scripts' steps: words, rows, locks. -/
namespace M78
open PySem L2 My
inductive Wd where
  | beg | imm | exc | com | rol | rea | sta | sto | wri
  deriving DecidableEq
def wS : Wd → Str
  | .beg => "begin" | .imm => "immediate" | .exc => "exclusive" | .com => "commit" | .rol => "rollback" | .rea => "read" | .sta => "start" | .sto => "stop" | .wri => "write"
theorem eqW (w v : Wd) : decide (V.str (wS w) = V.str (wS v)) = decide (w = v) := by
  cases w <;> cases v <;> decide +kernel
structure Row where
  p : Int
  o : Bool
  r : Bool
  l : Int
  deriving DecidableEq
def rowV (x : Row) : List V := [.int x.p, .bl x.o, .bl x.r, .int x.l]
def rowD (x : Row) : PyData := .tuple [.int x.p, .bool x.o, .bool x.r, .int x.l]
def oV : Option Int → V
  | none => .non
  | some i => .int i
def isOp (w : Wd) : Bool := w == .beg || (w == .imm || w == .exc)
def isEn (w : Wd) : Bool := w == .com || w == .rol
def isRs (w : Wd) : Bool := w == .rea || w == .sta
def isRsw (w : Wd) : Bool := w == .rea || (w == .sta || w == .wri)
theorem in_op (w : Wd) : inV (.str (wS w)) [.str (Str.ofString "begin"), .str (Str.ofString "immediate"), .str (Str.ofString "exclusive")] = isOp w := by cases w <;> decide +kernel
theorem in_en (w : Wd) : inV (.str (wS w)) [.str (Str.ofString "commit"), .str (Str.ofString "rollback")] = isEn w := by cases w <;> decide +kernel
theorem in_rs (w : Wd) : inV (.str (wS w)) [.str (Str.ofString "read"), .str (Str.ofString "start")] = isRs w := by cases w <;> decide +kernel
theorem in_rsw (w : Wd) : inV (.str (wS w)) [.str (Str.ofString "read"), .str (Str.ofString "start"), .str (Str.ofString "write")] = isRsw w := by cases w <;> decide +kernel
def restL (b : Bool) : Int := if b then 1 else 0
def openL (w : Wd) (l t : Int) : Option Int := if w = .beg then some l else if w = .imm then (if 2 ≤ t then none else some 2) else (if 1 ≤ t then none else some 4)
def workL (w : Wd) (x : Row) (t : Int) : Option Int :=
  if isRs w = true then (if x.l = 0 ∧ 3 ≤ t then none else if x.o = true then some (max x.l 1) else some (restL (x.r || decide (w = .sta))))
  else (if x.l < 2 ∧ 2 ≤ t then none else if x.o = true then some (max x.l 2) else if 1 ≤ t then none else some (restL x.r))
/-- what is left behind a step whose lock is known -/
def endL (x : Row) (o r : Bool) : Option Int → Row × Bool
  | none => (x, true)
  | some l => (⟨x.p + 1, o, r, l⟩, false)
def triedM (w : Wd) (x : Row) (t : Int) : Row × Bool :=
  if isOp w = true then endL x true x.r (openL w x.l t)
  else if isRsw w = true then endL x x.o (x.r || decide (w = .sta)) (workL w x t)
  else if w = .sto then endL x x.o false (some (if x.o = true then x.l else 0))
  else if w = .com ∧ 2 ≤ x.l ∧ 1 ≤ t then (⟨x.p, x.o, x.r, max x.l 3⟩, true)
  else endL x false x.r (some (restL x.r))
theorem max2 (i j : Int) : (if j > i then j else i) = max i j := by
  by_cases h : j > i
  · rw [if_pos h]
    omega
  · rw [if_neg h]
    omega
/-- an if whose test has the answer b and leaves the heap -/
theorem if_tv {c : TT} {t u : TS} {D : Ends} {σ : L2.St} {H : Hp} (b : Bool) (h : ∀ K : Bool → Hp → Prop, K b H → c σ H K) (hT : b = true → t D σ H) (hF : b = false → u D σ H) : tIfS c t u D σ H := h _ (by
  cases b
  · exact iteF (hF rfl)
  · exact iteT (hT rfl))
theorem seq_if_tv {c : TT} {t u r : TS} {D : Ends} {σ : L2.St} {H : Hp} (b : Bool) (h : ∀ K : Bool → Hp → Prop, K b H → c σ H K) (hT : b = true → t { D with nx := r D } σ H) (hF : b = false → u { D with nx := r D } σ H) : tSeq (tIfS c t u) r D σ H := if_tv b h hT hF
theorem vint (i j : Int) : decide (V.int i = V.int j) = decide (i = j) := by
  by_cases h : i = j
  · rw [decide_eq_true h, h]
    exact decide_eq_true rfl
  · rw [decide_eq_false h]
    exact decide_eq_false fun z => h (V.int.inj z)
/-! states -/
def othL (xs : List Row) (j : Nat) : Nat → List Int
  | 0 => []
  | n + 1 => othL xs j n ++ (if n = j then [] else match xs[n]? with | some x => [x.l] | none => [])
theorem othL_len (xs : List Row) (j : Nat) : ∀ n, (othL xs j n).length ≤ n
  | 0 => Nat.le_refl _
  | n + 1 => by
    have := othL_len xs j n
    unfold othL
    rw [List.length_append]
    split
    · simp
      omega
    · split
      · simp
        omega
      · simp
        omega
def topM (xs : List Row) (j : Nat) : Int := topOf 0 (othL xs j xs.length)
def scD (ss : List (List Wd)) : PyData := .tuple (ss.map fun sc => .tuple (sc.map fun v => .str (wS v)))
def stD (xs : List Row) : PyData := .tuple (xs.map rowD)
section
variable {m : Addr} {H : Hp} {a : Addr}
theorem at_tup {v : V} {ds : List PyData} (h : At m H v (.tuple ds)) : ∃ a vs, v = .ref a ∧ a ≠ m ∧ H a = some (.tup vs) ∧ AtAll m H vs ds := by
  cases h with
  | tup n e q => exact ⟨_, _, rfl, n, e, q⟩
theorem all_ints4 {vs : List V} {p l : Int} {o r : Bool} (h : AtAll m H vs [.int p, .bool o, .bool r, .int l]) : vs = [.int p, .bl o, .bl r, .int l] := by
  cases h with
  | cons h1 q =>
    cases q with
    | cons h2 q =>
      cases q with
      | cons h3 q =>
        cases q with
        | cons h4 q =>
          cases q
          cases h1
          cases h2
          cases h3
          cases h4
          rfl
theorem row_of {v : V} {x : Row} (h : At m H v (rowD x)) : ∃ R, v = .ref R ∧ R ≠ m ∧ H R = some (.tup (rowV x)) := by
  obtain ⟨R, vs, rfl, n, e, q⟩ := at_tup h
  rw [all_ints4 q] at e
  exact ⟨R, rfl, n, e⟩
theorem row_at {R : Addr} {x : Row} (n : R ≠ m) (e : H R = some (.tup (rowV x))) : At m H (.ref R) (rowD x) := .tup n e (.cons (.int _) (.cons (.bl _) (.cons (.bl _) (.cons (.int _) .nil))))
theorem all_get : ∀ {vs : List V} {ds : List PyData} {i : Nat} {d : PyData}, AtAll m H vs ds → ds[i]? = some d → ∃ v, vs[i]? = some v ∧ At m H v d
  | _, _, _, _, .nil, e => by simp at e
  | _, _, 0, _, .cons h _, e => by
    simp at e
    subst e
    exact ⟨_, rfl, h⟩
  | _, _, i + 1, d, .cons _ q, e => by
    obtain ⟨v, h1, h2⟩ := all_get (i := i) (d := d) q (by simpa using e)
    exact ⟨v, by simpa using h1, h2⟩
theorem all_take : ∀ {vs : List V} {ds : List PyData} (n : Nat), AtAll m H vs ds → AtAll m H (vs.take n) (ds.take n)
  | _, _, 0, _ => .nil
  | _, _, _ + 1, .nil => .nil
  | _, _, n + 1, .cons h q => .cons h (all_take n q)
theorem all_drop : ∀ {vs : List V} {ds : List PyData} (n : Nat), AtAll m H vs ds → AtAll m H (vs.drop n) (ds.drop n)
  | _, _, 0, q => q
  | _, _, _ + 1, .nil => .nil
  | _, _, n + 1, .cons h q => all_drop n q
theorem all_app : ∀ {vs us : List V} {ds es : List PyData}, AtAll m H vs ds → AtAll m H us es → AtAll m H (vs ++ us) (ds ++ es)
  | _, _, _, _, .nil, q => q
  | _, _, _, _, .cons h t, q => .cons h (all_app t q)
/-- the sum of two tuples, whichever object it is -/
theorem cat_any {K : PySem.W.Frag} {b : Addr} {xs ys : List V} {o : HO} {Q : VK} (ha : H a = some (.tup xs)) (hb : H b = some (.tup ys)) (na : a ≠ m) (nb : b ≠ m) (hm : H m = some o) (hz : xs.length + ys.length ≤ sizeLine)
    (k : ∀ p H', p ≠ m → Same H H' → H' p = some (.tup (xs ++ ys)) → Q (.ref p) H') : rCatA K (.ref a) (.ref b) H Q := by
  refine ⟨a, b, xs, ys, rfl, rfl, SqT.of ha, SqT.of hb, hz, fun e => ?_, fun _ e => ?_, fun _ _ p hp => ?_⟩
  · subst e
    exact k b H nb (fun _ _ e => e) hb
  · subst e
    exact k a H na (fun _ _ e => e) (by rw [List.append_nil]; exact ha)
  · refine k p _ (fun z => by rw [z, hm] at hp; cases hp) (fun q u e => ?_) upd_same
    rw [upd_ne (ne_of_none e hp)]
    exact e
end
end M78

set_option Elab.async false
set_option maxRecDepth 100000
set_option maxHeartbeats 4000000
set_option linter.all false
namespace C78
open PySem L2 My M78
abbrev sRest : Stmt := top 17
abbrev sOpen : Stmt := top 18
abbrev sWork : Stmt := top 19
abbrev sTried : Stmt := top 20
theorem pe_gI {X : Cx} {x : Str} {z : Int} {t : Tok} {pos : Pos} (hg : Gl X x) (hm : X.mg x = some (.int z t)) (hd : (x == ("__debug__" : Str)) = false := by decide) : PE X (.Name x pos) (tC (.int z)) := pe_glob hg hm ⟨_, rfl⟩ hd
theorem pe_gR {X : Cx} {x : Str} {a : Addr} {pos : Pos} (hg : Gl X x) (hm : X.mg x = some (.ref a)) (hd : (x == ("__debug__" : Str)) = false := by decide) : PE X (.Name x pos) (tC (.ref a)) := pe_glob hg hm rfl hd
theorem same_new {H : Hp} {p : Addr} {o : HO} (h : H p = none) : Same H (upd H p o) := fun b u e => by
  rw [upd_ne (ne_of_none e h)]
  exact e
theorem Same.tr {H H1 H2 : Hp} (a : Same H H1) (b : Same H1 H2) : Same H H2 := fun x o e => b _ _ (a _ _ e)
/-- the module's constants -/
structure Tk (K : PySem.W.Frag) (mg : Str → Option Value) : Prop where
  l0 : ∃ t, mg "NO_LOCK" = some (.int 0 t)
  l1 : ∃ t, mg "SHARED" = some (.int 1 t)
  l2 : ∃ t, mg "RESERVED" = some (.int 2 t)
  l3 : ∃ t, mg "PENDING" = some (.int 3 t)
  l4 : ∃ t, mg "EXCLUSIVE" = some (.int 4 t)
  op : ∃ a, mg "OPENING" = some (.ref a) ∧ ∀ H, SqT K H a [.str (Str.ofString "begin"), .str (Str.ofString "immediate"), .str (Str.ofString "exclusive")]
  en : ∃ a, mg "ENDING" = some (.ref a) ∧ ∀ H, SqT K H a [.str (Str.ofString "commit"), .str (Str.ofString "rollback")]
  ot : ∃ a, mg "OTHERS" = some (.ref a) ∧ ∀ H, SqT K H a [.str (Str.ofString "read"), .str (Str.ofString "start"), .str (Str.ofString "stop"), .str (Str.ofString "write")]
  max : mg "max" = none
section
variable {P : Program} {w : World} {K : PySem.W.Frag} {mg : Str → Option Value} {base : Heap}
def spRest : Sp := fun vs H Q _ => ∃ b : Bool, vs = [.bl b] ∧ Q (.int (restL b)) H
theorem scRest : FnScope ["reads"] ["reads"] (defScope sRest) := ⟨rfl, rfl, rfl, by decide +kernel, rfl, by decide +kernel, by decide +kernel⟩
theorem pr_rest (D : Df K mg "resting" sRest ["reads"]) (G : Tk K mg) : Pr P w K mg base 1 "resting" ["reads"] spRest := by
  refine D.pr scRest (fun vs H Q E h => ?_) (fun f cdv A outer s H vs Q E hr h => ?_)
  · obtain ⟨b, rfl, _⟩ := h
    rfl
  · obtain ⟨b, rfl, q⟩ := h
    obtain ⟨_, g0⟩ := G.l0
    obtain ⟨_, g1⟩ := G.l1
    obtain ⟨_, g2⟩ := G.l2
    obtain ⟨_, g3⟩ := G.l3
    obtain ⟨_, g4⟩ := G.l4
    refine ⟨_, (pss_one (ps_ret (pe_ifExp (pt_val (pv 0)) (pe_gI rfl g1) (pe_gI rfl g0)))), ?_⟩
    refine ⟨_, rfl, _, rfl, ?_⟩
    cases b
    · exact iteF q
    · exact iteT q
def spOpen : Sp := fun vs H Q _ => ∃ (v : Wd) (l t : Int), vs = [.str (wS v), .int l, .int t] ∧ Q (oV (openL v l t)) H
theorem scOpen : FnScope ["step", "lock", "other"] ["step", "lock", "other"] (defScope sOpen) := ⟨rfl, rfl, rfl, by decide +kernel, rfl, by decide +kernel, by decide +kernel⟩
theorem pr_open (D : Df K mg "opened_lock" sOpen ["step", "lock", "other"]) (G : Tk K mg) : Pr P w K mg base 1 "opened_lock" ["step", "lock", "other"] spOpen := by
  refine D.pr scOpen (fun vs H Q E h => ?_) (fun f cdv A outer s H vs Q E hr h => ?_)
  · obtain ⟨v, l, t, rfl, _⟩ := h
    rfl
  · obtain ⟨v, l, t, rfl, q⟩ := h
    unfold openL at q
    obtain ⟨_, g0⟩ := G.l0
    obtain ⟨_, g1⟩ := G.l1
    obtain ⟨_, g2⟩ := G.l2
    obtain ⟨_, g3⟩ := G.l3
    obtain ⟨_, g4⟩ := G.l4
    refine ⟨_, (pss_cons (ps_if (pt_cmpR op_eq (pv 0) pe_str (nomark _))
        (pss_one (ps_ret (pv 1)))
        pss_nil)
      (pss_cons (ps_if (pt_cmpR op_eq (pv 0) pe_str (nomark _))
        (pss_one (ps_ret (pe_ifExp (pt_cmpR op_ge (pv 2) (pe_gI rfl g2) (nomark _)) pe_non (pe_gI rfl g2))))
        pss_nil)
      (pss_one (ps_ret (pe_ifExp (pt_cmpR op_ge (pv 2) (pe_gI rfl g1) (nomark _)) pe_non (pe_gI rfl g4)))))), ?_⟩
    refine ⟨_, rfl, rfl, _, rfl, ?_⟩
    refine ite2 (fun h1 => ?_) (fun h1 => ?_)
    · have e1 : v = .beg := of_decide_eq_true ((eqW v .beg).symm.trans h1)
      rw [if_pos e1] at q
      exact ⟨_, rfl, q⟩
    · have e1 : v ≠ .beg := fun z => h1 ((eqW v .beg).trans (decide_eq_true z))
      rw [if_neg e1] at q
      refine ⟨_, rfl, rfl, _, rfl, ?_⟩
      refine ite2 (fun h2 => ?_) (fun h2 => ?_)
      · have e2 : v = .imm := of_decide_eq_true ((eqW v .imm).symm.trans h2)
        rw [if_pos e2] at q
        refine ⟨_, rfl, _, _, rfl, rfl, _, rfl, ?_⟩
        refine ite2 (fun h3 => ?_) (fun h3 => ?_)
        · rw [if_pos (of_decide_eq_true h3)] at q
          exact q
        · rw [if_neg (fun z => h3 (decide_eq_true z))] at q
          exact q
      · have e2 : v ≠ .imm := fun z => h2 ((eqW v .imm).trans (decide_eq_true z))
        rw [if_neg e2] at q
        refine ⟨_, rfl, _, _, rfl, rfl, _, rfl, ?_⟩
        refine ite2 (fun h3 => ?_) (fun h3 => ?_)
        · rw [if_pos (of_decide_eq_true h3)] at q
          exact q
        · rw [if_neg (fun z => h3 (decide_eq_true z))] at q
          exact q
def spWork : Sp := fun vs H Q _ => ∃ (v : Wd) (a : Addr) (x : Row) (t : Int), vs = [.str (wS v), .ref a, .int t] ∧ H a = some (.tup (rowV x)) ∧ ∀ H', Same H H' → Q (oV (workL v x t)) H'
theorem scWork : FnScope ["step", "row", "other", "place", "opened", "reads", "lock"] ["step", "row", "other"] (defScope sWork) := ⟨rfl, rfl, rfl, by decide +kernel, rfl, by decide +kernel, by decide +kernel⟩
theorem pr_work (D : Df K mg "working_lock" sWork ["step", "row", "other"]) (G : Tk K mg) (PR : Pr P w K mg base 1 "resting" ["reads"] spRest) : Pr P w K mg base 2 "working_lock" ["step", "row", "other"] spWork := by
  refine D.pr scWork (fun vs H Q E h => ?_) (fun f cdv A outer s H vs Q E hr h => ?_)
  · obtain ⟨v, a, x, t, rfl, _⟩ := h
    rfl
  · obtain ⟨v, a, x, t, rfl, ha, k⟩ := h
    have nd := scWork.nd
    have hmax := G.max
    unfold workL at k
    obtain ⟨_, g0⟩ := G.l0
    obtain ⟨_, g1⟩ := G.l1
    obtain ⟨_, g2⟩ := G.l2
    obtain ⟨_, g3⟩ := G.l3
    obtain ⟨_, g4⟩ := G.l4
    refine ⟨_, (pss_cons (ps_asg (pv 1) (pg_tup rfl (pgs_cons (pg_name (i := 3) nd rfl (Or.inl rfl)) (pgs_cons (pg_name (i := 4) nd rfl (Or.inl rfl)) (pgs_cons (pg_name (i := 5) nd rfl (Or.inl rfl)) (pgs_cons (pg_name (i := 6) nd rfl (Or.inl rfl)) pgs_nil))))))
      (pss_cons (ps_if (pt_cmpR op_in_seq (pv 0) (pe_tup (pa_cons pe_str (pa_cons pe_str pa_nil))) (by rfl))
        (pss_cons (ps_if (PW.pt (pw_and (pt_cmpR op_eq (pv 6) (pe_gI rfl g0) (nomark _)) (pw_and1 (pt_cmpR op_ge (pv 2) (pe_gI rfl g3) (nomark _)))))
          (pss_one (ps_ret pe_non))
          pss_nil)
        (pss_cons (ps_if (pt_val (pv 4))
          (pss_one (ps_ret (pe_callB (call_max2 rfl) (by rfl) hmax (by decide +kernel) (pa_cons (pv 6) (pa_cons (pe_gI rfl g1) pa_nil)))))
          pss_nil)
        (pss_one (ps_ret (pe_callP PR hr (by rfl) (pa_cons (pe_or (pv 5) (pe_one (pe_cmpR op_eq (pv 0) pe_str (nomark _)))) pa_nil))))))
        pss_nil)
      (pss_cons (ps_if (PW.pt (pw_and (pt_cmpR op_lt (pv 6) (pe_gI rfl g2) (nomark _)) (pw_and1 (pt_cmpR op_ge (pv 2) (pe_gI rfl g2) (nomark _)))))
        (pss_one (ps_ret pe_non))
        pss_nil)
      (pss_cons (ps_if (pt_val (pv 4))
        (pss_one (ps_ret (pe_callB (call_max2 rfl) (by rfl) hmax (by decide +kernel) (pa_cons (pv 6) (pa_cons (pe_gI rfl g2) pa_nil)))))
        pss_nil)
      (pss_one (ps_ret (pe_ifExp (pt_cmpR op_ge (pv 2) (pe_gI rfl g1) (nomark _)) pe_non (pe_callP PR hr (by rfl) (pa_cons (pv 5) pa_nil))))))))), ?_⟩
    refine ⟨_, rfl, _, _, rfl, SqT.of ha, rfl, _, _, rfl, _, _, rfl, _, _, rfl, _, _, rfl, rfl, ?_⟩
    refine ⟨_, rfl, (by show 2 ≤ sizeLine; decide), fun tp htp => ?_⟩
    have q := k _ (same_new (o := .tup [.str (Str.ofString "read"), .str (Str.ofString "start")]) htp)
    refine ⟨_, _, rfl, .inr (SqT.of upd_same), rfl, rfl, _, rfl, ?_⟩
    refine ite2 (fun h1 => ?_) (fun h1 => ?_)
    · have e1 : isRs v = true := (in_rs v).symm.trans h1
      rw [if_pos e1] at q
      refine seq_if_tv (decide (x.l = 0 ∧ 3 ≤ t)) (fun K' kk => ?_) (fun hb => ?_) (fun hb => ?_)
      · refine ⟨_, rfl, rfl, _, rfl, ?_⟩
        refine ite2 (fun h2 => ?_) (fun h2 => ?_)
        · have e2 : x.l = 0 := V.int.inj (of_decide_eq_true h2)
          refine ⟨_, rfl, _, _, rfl, rfl, _, rfl, ?_⟩
          simpa [e2] using kk
        · have e2 : x.l ≠ 0 := fun z => h2 (decide_eq_true (congrArg V.int z))
          simpa [e2] using kk
      · rw [if_pos (of_decide_eq_true hb)] at q
        exact q
      · rw [if_neg (of_decide_eq_false hb)] at q
        refine ⟨_, rfl, _, rfl, ?_⟩
        refine ite2 (fun ho => ?_) (fun ho => ?_)
        · rw [if_pos ho] at q
          refine ⟨_, rfl, _, _, rfl, ?_⟩
          rw [max2]
          exact q
        · rw [if_neg ho] at q
          refine ⟨_, rfl, _, rfl, ?_⟩
          cases hx : x.r
          · refine iteF ⟨_, rfl, rfl, _, rfl, ?_⟩
            rw [hx] at q
            have e3 := eqW v .sta
            rw [Bool.false_or, ← e3] at q
            exact q
          · refine iteT ⟨_, rfl, ?_⟩
            rw [hx] at q
            exact q
    · have e1 : ¬ isRs v = true := fun z => h1 ((in_rs v).trans z)
      rw [if_neg e1] at q
      dsimp only [tNext]
      refine seq_if_tv (decide (x.l < 2 ∧ 2 ≤ t)) (fun K' kk => ?_) (fun hb => ?_) (fun hb => ?_)
      · refine ⟨_, rfl, _, _, rfl, rfl, _, rfl, ?_⟩
        refine ite2 (fun h2 => ?_) (fun h2 => ?_)
        · have e2 : x.l < 2 := of_decide_eq_true h2
          refine ⟨_, rfl, _, _, rfl, rfl, _, rfl, ?_⟩
          simpa [e2] using kk
        · have e2 : ¬ x.l < 2 := fun z => h2 (decide_eq_true z)
          simpa [e2] using kk
      · rw [if_pos (of_decide_eq_true hb)] at q
        exact q
      · rw [if_neg (of_decide_eq_false hb)] at q
        refine ⟨_, rfl, _, rfl, ?_⟩
        refine ite2 (fun ho => ?_) (fun ho => ?_)
        · rw [if_pos ho] at q
          refine ⟨_, rfl, _, _, rfl, ?_⟩
          rw [max2]
          exact q
        · rw [if_neg ho] at q
          refine ⟨_, rfl, _, _, rfl, rfl, _, rfl, ?_⟩
          refine ite2 (fun h3 => ?_) (fun h3 => ?_)
          · rw [if_pos (of_decide_eq_true h3)] at q
            exact q
          · rw [if_neg (fun z => h3 (decide_eq_true z))] at q
            exact ⟨_, rfl, _, rfl, q⟩
end
end C78

set_option Elab.async false
set_option maxRecDepth 100000
set_option maxHeartbeats 4000000
set_option linter.all false
namespace C78
open PySem L2 My M78
section
variable {P : Program} {w : World} {K : PySem.W.Frag} {mg : Str → Option Value} {base : Heap}
def spTried : Sp := fun vs H Q _ => ∃ (v : Wd) (a : Addr) (x : Row) (t : Int), vs = [.str (wS v), .ref a, .int t] ∧ H a = some (.tup (rowV x)) ∧
  ∀ (p q : Addr) (H' : Hp), H p = none → Same H H' → H' p = some (.tup [.ref q, .bl (triedM v x t).2]) → H' q = some (.tup (rowV (triedM v x t).1)) → (q = a ∨ H q = none) → Q (.ref p) H'
theorem scTried : FnScope ["step", "row", "other", "place", "opened", "reads", "lock", "after"] ["step", "row", "other"] (defScope sTried) := ⟨rfl, rfl, rfl, by decide +kernel, rfl, by decide +kernel, by decide +kernel⟩
theorem pr_tried (D : Df K mg "tried" sTried ["step", "row", "other"]) (G : Tk K mg) (PR : Pr P w K mg base 1 "resting" ["reads"] spRest) (PO : Pr P w K mg base 1 "opened_lock" ["step", "lock", "other"] spOpen) (PWk : Pr P w K mg base 2 "working_lock" ["step", "row", "other"] spWork) :
    Pr P w K mg base 3 "tried" ["step", "row", "other"] spTried := by
  refine D.pr scTried (fun vs H Q E h => ?_) (fun f cdv A outer s H vs Q E hr h => ?_)
  · obtain ⟨v, a, x, t, rfl, _⟩ := h
    rfl
  · obtain ⟨v, a, x, t, rfl, ha, k⟩ := h
    have nd := scTried.nd
    have hmax := G.max
    have hr1 := hr.mono (show 1 ≤ 2 by decide)
    obtain ⟨aO, gOp, sqO⟩ := G.op
    obtain ⟨_, g0⟩ := G.l0
    obtain ⟨_, g1⟩ := G.l1
    obtain ⟨_, g2⟩ := G.l2
    obtain ⟨_, g3⟩ := G.l3
    obtain ⟨_, g4⟩ := G.l4
    refine ⟨_, (pss_cons (ps_asg (pv 1) (pg_tup rfl (pgs_cons (pg_name (i := 3) nd rfl (Or.inl rfl)) (pgs_cons (pg_name (i := 4) nd rfl (Or.inl rfl)) (pgs_cons (pg_name (i := 5) nd rfl (Or.inl rfl)) (pgs_cons (pg_name (i := 6) nd rfl (Or.inl rfl)) pgs_nil))))))
      (pss_cons (ps_asg (pv 6) (pg_name (i := 7) nd rfl (Or.inl rfl)))
      (Evl.pss_cut (ps_if (pt_cmpR op_in_seq (pv 0) (pe_gR rfl gOp) (by rfl))
        (pss_cons (ps_asg (pe_callP PO hr1 (by rfl) (pa_cons (pv 0) (pa_cons (pv 6) (pa_cons (pv 2) pa_nil)))) (pg_name (i := 7) nd rfl (Or.inl rfl)))
        (pss_one (ps_asg pe_bl (pg_name (i := 4) nd rfl (Or.inl rfl)))))
        (pss_one (ps_if (pt_cmpR op_in_seq (pv 0) (pe_tup (pa_cons pe_str (pa_cons pe_str (pa_cons pe_str pa_nil)))) (by rfl))
          (pss_cons (ps_asg (pe_callP PWk hr (by rfl) (pa_cons (pv 0) (pa_cons (pv 1) (pa_cons (pv 2) pa_nil)))) (pg_name (i := 7) nd rfl (Or.inl rfl)))
          (pss_one (ps_asg (pe_or (pv 5) (pe_one (pe_cmpR op_eq (pv 0) pe_str (nomark _)))) (pg_name (i := 5) nd rfl (Or.inl rfl)))))
          (pss_one (ps_if (pt_cmpR op_eq (pv 0) pe_str (nomark _))
            (pss_cons (ps_asg pe_bl (pg_name (i := 5) nd rfl (Or.inl rfl)))
            (pss_one (ps_asg (pe_ifExp (pt_val (pv 4)) (pv 6) (pe_gI rfl g0)) (pg_name (i := 7) nd rfl (Or.inl rfl)))))
            (pss_one (ps_if (PW.pt (pw_and (pt_cmpR op_eq (pv 0) pe_str (nomark _)) (pw_and (pt_cmpR op_ge (pv 6) (pe_gI rfl g2) (nomark _)) (pw_and1 (pt_cmpR op_ge (pv 2) (pe_gI rfl g1) (nomark _))))))
              (pss_one (ps_ret (pe_tup (pa_cons (pe_tup (pa_cons (pv 3) (pa_cons (pv 4) (pa_cons (pv 5) (pa_cons (pe_callB (call_max2 rfl) (by rfl) hmax (by decide +kernel) (pa_cons (pv 6) (pa_cons (pe_gI rfl g3) pa_nil))) pa_nil))))) (pa_cons pe_bl pa_nil)))))
              (pss_cons (ps_asg pe_bl (pg_name (i := 4) nd rfl (Or.inl rfl)))
              (pss_one (ps_asg (pe_callP PR hr1 (by rfl) (pa_cons (pv 5) pa_nil)) (pg_name (i := 7) nd rfl (Or.inl rfl))))))))))))
      (pss_cons (ps_if (pt_cmpR op_isN (pv 7) pe_non (nomark _))
        (pss_one (ps_ret (pe_tup (pa_cons (pv 1) (pa_cons pe_bl pa_nil)))))
        pss_nil)
      (pss_one (ps_ret (pe_tup (pa_cons (pe_tup (pa_cons (pe_op op_add (pv 3) pe_int) (pa_cons (pv 4) (pa_cons (pv 5) (pa_cons (pv 7) pa_nil))))) (pa_cons pe_bl pa_nil))))))))), ?_⟩
    refine ⟨_, rfl, _, _, rfl, SqT.of ha, rfl, _, _, rfl, _, _, rfl, _, _, rfl, _, _, rfl, rfl, ?_⟩
    refine ⟨_, rfl, ?_⟩
    refine ⟨fun σ' H1 => Same H H1 ∧ ∃ (o r : Bool) (ol : Option Int), triedM v x t = endL x o r ol ∧ σ' = [some (.str (wS v)), some (.ref a), some (.int t), some (.int x.p), some (.bl o), some (.bl r), some (.int x.l), some (oV ol)], ?_, ?_⟩
    · refine ⟨_, rfl, _, _, rfl, .inr (sqO _), rfl, rfl, _, rfl, ?_⟩
      refine ite2 (fun h1 => ?_) (fun h1 => ?_)
      · have e1 : isOp v = true := (in_op v).symm.trans h1
        refine ⟨_, rfl, _, rfl, _, rfl, v, x.l, t, rfl, ?_⟩
        exact ⟨fun _ _ e => e, true, x.r, _, by unfold triedM; rw [if_pos e1], rfl⟩
      · have e1 : ¬ isOp v = true := fun z => h1 ((in_op v).trans z)
        refine ⟨_, rfl, (by show 3 ≤ sizeLine; decide), fun tp htp => ?_⟩
        have s1 := same_new (o := .tup [.str (Str.ofString "read"), .str (Str.ofString "start"), .str (Str.ofString "write")]) htp
        refine ⟨_, _, rfl, .inr (SqT.of upd_same), rfl, rfl, _, rfl, ?_⟩
        refine ite2 (fun h2 => ?_) (fun h2 => ?_)
        · have e2 : isRsw v = true := (in_rsw v).symm.trans h2
          refine ⟨_, rfl, _, rfl, _, rfl, v, a, x, t, rfl, s1 _ _ ha, fun H2 s2 => ?_⟩
          refine ⟨_, rfl, _, rfl, ?_⟩
          have e3 : triedM v x t = endL x x.o (x.r || decide (v = .sta)) (workL v x t) := by
            unfold triedM
            rw [if_neg e1, if_pos e2]
          cases hx : x.r
          · refine iteF ⟨_, rfl, rfl, ?_⟩
            rw [hx, Bool.false_or, ← eqW v .sta] at e3
            exact ⟨Same.tr s1 s2, x.o, _, _, e3, rfl⟩
          · rw [hx, Bool.true_or] at e3
            exact iteT ⟨Same.tr s1 s2, x.o, true, _, e3, rfl⟩
        · have e2 : ¬ isRsw v = true := fun z => h2 ((in_rsw v).trans z)
          refine ⟨_, rfl, rfl, _, rfl, ?_⟩
          refine ite2 (fun h3 => ?_) (fun h3 => ?_)
          · have e3 : v = .sto := of_decide_eq_true ((eqW v .sto).symm.trans h3)
            have e4 : triedM v x t = endL x x.o false (some (if x.o = true then x.l else 0)) := by
              unfold triedM
              rw [if_neg e1, if_neg e2, if_pos e3]
            refine ⟨_, rfl, _, rfl, ?_⟩
            refine ite2 (fun ho => ?_) (fun ho => ?_)
            · rw [if_pos ho] at e4
              exact ⟨_, rfl, s1, x.o, false, _, e4, rfl⟩
            · rw [if_neg ho] at e4
              exact ⟨s1, x.o, false, _, e4, rfl⟩
          · have e3 : v ≠ .sto := fun z => h3 ((eqW v .sto).trans (decide_eq_true z))
            refine if_tv (decide (v = .com ∧ 2 ≤ x.l ∧ 1 ≤ t)) (fun K' kk => ?_) (fun hb => ?_) (fun hb => ?_)
            · refine ⟨_, rfl, rfl, _, rfl, ?_⟩
              refine ite2 (fun h4 => ?_) (fun h4 => ?_)
              · have e4 : v = .com := of_decide_eq_true ((eqW v .com).symm.trans h4)
                refine ⟨_, rfl, _, _, rfl, rfl, _, rfl, ?_⟩
                refine ite2 (fun h5 => ?_) (fun h5 => ?_)
                · have e5 : 2 ≤ x.l := of_decide_eq_true h5
                  refine ⟨_, rfl, _, _, rfl, rfl, _, rfl, ?_⟩
                  simpa [e4, e5] using kk
                · have e5 : ¬ 2 ≤ x.l := fun z => h5 (decide_eq_true z)
                  simpa [e4, e5] using kk
              · have e4 : v ≠ .com := fun z => h4 ((eqW v .com).trans (decide_eq_true z))
                simpa [e4] using kk
            · have e4 : triedM v x t = (⟨x.p, x.o, x.r, max x.l 3⟩, true) := by
                unfold triedM
                rw [if_neg e1, if_neg e2, if_neg e3, if_pos (of_decide_eq_true hb)]
              rw [e4] at k
              refine ⟨_, rfl, _, rfl, _, rfl, _, rfl, _, _, rfl, (by show 4 ≤ sizeLine; decide), fun q hq => ⟨(by show 2 ≤ sizeLine; decide), fun p hp => ?_⟩⟩
              rw [max2] at hp ⊢
              have sq := same_new (o := .tup [.int x.p, .bl x.o, .bl x.r, .int (max x.l 3)]) hq
              have npq : q ≠ p := fun z => by
                rw [← z, upd_same] at hp
                cases hp
              refine k p q _ (Same.free (Same.tr s1 sq) hp) (Same.tr (Same.tr s1 sq) (same_new hp)) upd_same (Eq.trans (upd_ne npq) upd_same) (.inr (Same.free s1 hq))
            · have e4 : triedM v x t = endL x false x.r (some (restL x.r)) := by
                unfold triedM
                rw [if_neg e1, if_neg e2, if_neg e3, if_neg (of_decide_eq_false hb)]
              exact ⟨_, rfl, _, rfl, s1, false, x.r, _, e4, rfl⟩
    · rintro σ' H1 ⟨s1, o, r, ol, e, rfl⟩
      rw [e] at k
      refine ⟨_, rfl, rfl, _, rfl, ?_⟩
      cases ol with
      | none =>
        refine iteT ⟨_, rfl, (by show 2 ≤ sizeLine; decide), fun p hp => ?_⟩
        have npa : a ≠ p := ne_of_none (s1 _ _ ha) hp
        exact k p a _ (Same.free s1 hp) (Same.tr s1 (same_new hp)) upd_same (Eq.trans (upd_ne npa) (s1 _ _ ha)) (.inl rfl)
      | some l =>
        refine iteF ⟨_, rfl, _, _, rfl, rfl, _, rfl, _, rfl, _, rfl, (by show 4 ≤ sizeLine; decide), fun q hq => ⟨(by show 2 ≤ sizeLine; decide), fun p hp => ?_⟩⟩
        have sq := same_new (o := .tup (rowV ⟨x.p + 1, o, r, l⟩)) hq
        have npq : q ≠ p := fun z => by
          rw [← z, upd_same] at hp
          cases hp
        exact k p q _ (Same.free (Same.tr s1 sq) hp) (Same.tr (Same.tr s1 sq) (same_new hp)) upd_same (Eq.trans (upd_ne npq) upd_same) (.inr (Same.free s1 hq))
end
end C78

set_option Elab.async false
set_option maxRecDepth 100000
set_option maxHeartbeats 4000000
set_option linter.all false
namespace C78
open PySem L2 My M78
abbrev sMoved : Stmt := top 21
section
variable {P : Program} {w : World} {K : PySem.W.Frag} {mg : Str → Option Value} {base : Heap}
abbrev nMoved : List Str := ["scripts", "state", "at", "row", "other", "refused", "k"]
theorem scMoved : FnScope nMoved ["scripts", "state", "at"] (defScope sMoved) := ⟨rfl, rfl, rfl, by decide +kernel, rfl, by decide +kernel, by decide +kernel⟩
theorem othL_succ (xs : List Row) (j n : Nat) : othL xs j (n + 1) = othL xs j n ++ (if n = j then [] else match xs[n]? with | some x => [x.l] | none => []) := rfl
/-- one step of script number j -/
def spMoved : Sp := fun vs H Q _ => ∃ (m A B : Addr) (o : HO) (ss : List (List Wd)) (xs : List Row) (j p : Nat) (sc : List Wd) (x : Row) (v : Wd), H m = some o ∧ vs = [.ref A, .ref B, .int j] ∧ At m H (.ref A) (scD ss) ∧ At m H (.ref B) (stD xs) ∧
  xs.length ≤ 1000 ∧ ss[j]? = some sc ∧ xs[j]? = some x ∧ x.p = (p : Int) ∧ sc[p]? = some v ∧
  ∀ (q : Addr) (H' : Hp), H q = none → Same H H' → At m H' (.ref q) (.tuple [stD (xs.set j (triedM v x (topM xs j)).1), .bool (triedM v x (topM xs j)).2]) → Q (.ref q) H'
theorem pr_moved (D : Df K mg "moved" sMoved ["scripts", "state", "at"]) (T : Tx mg) (G : Tk K mg) (PTr : Pr P w K mg base 3 "tried" ["step", "row", "other"] spTried) : Pr P w K mg base 4 "moved" ["scripts", "state", "at"] spMoved := by
  refine D.pr scMoved (fun vs H Q E h => ?_) (fun f cdv A outer s H vs Q E hr h => ?_)
  · obtain ⟨m, A, B, o, ss, xs, j, p, sc, x, v, hm, rfl, _⟩ := h
    rfl
  · obtain ⟨m, A, B, o, ss, xs, j, p, sc, x, v, hm, rfl, hA, hB, hlen, hsc, hx, hp, hv, k⟩ := h
    have nd := scMoved.nd
    obtain ⟨_, g0⟩ := G.l0
    obtain ⟨_, g1⟩ := G.l1
    obtain ⟨_, g2⟩ := G.l2
    obtain ⟨_, g3⟩ := G.l3
    obtain ⟨_, g4⟩ := G.l4
    refine ⟨_, (pss_cons (ps_asg (pe_callBK (cr_maxD rfl hr.units) (by rfl) G.max (by decide +kernel) (pa_cons (pe_lc (own := [("k", 6), ("row", 3)]) (g := gTup K 2 (gCons (gName 6) (gCons (gName 3) gNil))) (te := tOp (rIxT K) (tVar 3) (tC (.int 3))) (by rfl) nd (pi_enumT (by rfl) T.enumerate (pa_cons (pv 1) pa_nil))
  (blkOk_by (own := [("k", 6), ("row", 3)]) (N := nMoved) (sc := defScope sMoved) (by decide +kernel))
  (fun _ _ _ _ _ => pg_tup rfl (pgs_cons (pg_name (i := 6) nd rfl (Or.inl rfl) (Or.inr rfl)) (pgs_cons (pg_name (i := 3) nd rfl (Or.inl rfl) (Or.inr rfl)) pgs_nil))) (fun _ _ _ _ _ => pts_one (pt_cmpR op_ne (pv 6) (pv 2) (nomark _)))
  (fun _ _ _ _ _ => (pe_ix ix_tup (pv 3) pe_int (fun _ _ => rfl)))) pa_nil) (pk_cons (pe_gI rfl g0) pk_nil)) (pg_name (i := 4) nd rfl (Or.inl rfl)))
      (pss_cons (ps_asg (pe_callP PTr hr (by rfl) (pa_cons (pe_ix ix_tup (pe_ix ix_tup (pv 0) (pv 2) (fun _ _ => rfl)) (pe_ix ix_tup (pe_ix ix_tup (pv 1) (pv 2) (fun _ _ => rfl)) pe_int (fun _ _ => rfl)) (fun _ _ => rfl)) (pa_cons (pe_ix ix_tup (pv 1) (pv 2) (fun _ _ => rfl)) (pa_cons (pv 4) pa_nil)))) (pg_tup rfl (pgs_cons (pg_name (i := 3) nd rfl (Or.inl rfl)) (pgs_cons (pg_name (i := 5) nd rfl (Or.inl rfl)) pgs_nil))))
      (pss_one (ps_ret (pe_tup (pa_cons (pe_op op_catA (pe_op op_catA (pe_slice sl_tupA (pv 1) po_none (po_some (pv 2))) (pe_tup (pa_cons (pv 3) pa_nil))) (pe_slice sl_tupA (pv 1) (po_some (pe_op op_add (pv 2) pe_int)) po_none)) (pa_cons (pv 5) pa_nil))))))), ?_⟩
    obtain ⟨_, ua, ea, nA, hA1, aA⟩ := at_tup hA
    cases ea
    obtain ⟨_, ub, eb, nB, hB1, aB⟩ := at_tup hB
    cases eb
    have lub : ub.length = xs.length := by
      rw [aB.length, List.length_map]
    have hj : j < xs.length := (List.getElem?_eq_some_iff.mp hx).1
    -- other = max(..)
    refine ⟨_, rfl, _, _, rfl, SqT.of hB1, fun Dl hD => ?_⟩
    refine lc_it (walk_enumT (xs := ub)) (fun i H2 => Same H H2 ∧ H2 Dl = some (.lst ((othL xs j i).map V.int))) ?_ ?_ ?_ ?_
    · exact ⟨same_new hD, upd_same⟩
    · exact fun i H2 _ q => SqT.of (q.1 _ _ hB1)
    · rintro i y H2 H3 hi ⟨sm, hl⟩ ⟨T2, i', vr, rfl, hT2, rfl, ei, er⟩
      obtain rfl : V.int (i : Nat) = i' := Option.some.inj ei
      have hix : i < xs.length := by omega
      obtain ⟨dr, e1, ar⟩ := aB.get er
      rw [List.getElem?_map, List.getElem?_eq_getElem hix] at e1
      cases e1
      obtain ⟨R, rfl, nR, hR⟩ := row_of ar
      have sT : Same H (upd H2 T2 (.tup [.int (i : Nat), .ref R])) := Same.tr sm (same_new hT2)
      have nDT : Dl ≠ T2 := ne_of_none hl hT2
      have hl3 : (upd H2 T2 (.tup [.int (i : Nat), .ref R])) Dl = some (.lst ((othL xs j i).map V.int)) := by
        rw [upd_ne nDT]
        exact hl
      refine ⟨_, _, rfl, SqT.of upd_same, rfl, _, _, rfl, _, _, rfl, rfl, rfl, ?_⟩
      refine ⟨_, rfl, _, rfl, rfl, _, rfl, ?_⟩
      by_cases hij : i = j
      · rw [decide_eq_true (show V.int ((i : Nat) : Int) = V.int ((j : Nat) : Int) by rw [hij])]
        refine iteF ⟨sT, ?_⟩
        rw [hl3, othL_succ, if_pos hij, List.append_nil]
      · rw [decide_eq_false (show ¬ V.int ((i : Nat) : Int) = V.int ((j : Nat) : Int) from fun z => hij (by have := V.int.inj z; omega))]
        refine iteT ⟨_, rfl, R, _, _, _, rfl, rfl, SqT.of (sT _ _ hR), rfl, _, hl3, ?_, ?_, ?_⟩
        · rw [List.length_map]
          have := othL_len xs j i
          exact small6 (by omega)
        · intro b u e
          rw [upd_ne (ne_of_none e hD)]
          exact sT _ _ e
        · rw [upd_same, othL_succ, if_neg hij, List.getElem?_eq_getElem hix, List.map_append]
          rfl
    · rintro H2 ⟨s2, hl⟩
      refine ⟨_, _, _, rfl, rfl, SqL.of hl, ?_⟩
      rw [lub]
      -- row, refused = tried(..)
      obtain ⟨vsc, es1, asc⟩ := all_get (i := j) (d := .tuple (sc.map fun v => .str (wS v))) aA (by rw [List.getElem?_map, hsc]; rfl)
      obtain ⟨aS, us, rfl, nS, hS, aS2⟩ := at_tup asc
      obtain ⟨vv, ev1, av⟩ := all_get (i := p) (d := .str (wS v)) aS2 (by rw [List.getElem?_map, hv]; rfl)
      cases av
      obtain ⟨vR, er1, aR⟩ := all_get (i := j) (d := rowD x) aB (by rw [List.getElem?_map, hx]; rfl)
      obtain ⟨R, rfl, nR, hR⟩ := row_of aR
      have hp2 : rowV x = [.int (p : Int), .bl x.o, .bl x.r, .int x.l] := by
        unfold rowV
        rw [hp]
      have hR2 : H2 R = some (.tup [.int (p : Int), .bl x.o, .bl x.r, .int x.l]) := by
        rw [← hp2]
        exact s2 _ _ hR
      refine ⟨_, rfl, _, rfl, _, _, _, _, rfl, rfl, SqT.of (s2 _ _ hA1), atI_nat es1, ?_⟩
      refine ⟨_, rfl, _, rfl, _, _, _, _, rfl, rfl, SqT.of (s2 _ _ hB1), atI_nat er1, ?_⟩
      refine ⟨_, _, _, _, rfl, rfl, SqT.of hR2, rfl, ?_⟩
      refine ⟨_, _, _, _, rfl, rfl, SqT.of (s2 _ _ hS), atI_nat ev1, ?_⟩
      refine ⟨_, rfl, _, rfl, _, _, _, _, rfl, rfl, SqT.of (s2 _ _ hB1), atI_nat er1, ?_⟩
      refine ⟨_, rfl, v, R, x, _, rfl, s2 _ _ hR, fun pt q H3 npt s3 hpt hq hqo => ?_⟩
      refine ⟨_, _, rfl, SqT.of hpt, rfl, _, _, rfl, _, _, rfl, rfl, ?_⟩
      have sm3 : Same H H3 := Same.tr s2 s3
      have nq : q ≠ m := by
        rcases hqo with rfl | h
        · exact nR
        · exact fun z => by
            rw [z, s2 _ _ hm] at h
            cases h
      -- state[:at]
      have hB3 := sm3 _ _ hB1
      have w1 : ¬ (HT.sIx ub.length 0 none = 0 ∧ HT.sIx ub.length ub.length (some (j : Int)) = ub.length) := fun z => by
        have := z.2
        rw [HT.sIx_nat] at this
        omega
      refine ⟨_, rfl, _, rfl, _, rfl, _, _, rfl, SqT.of hB3, fun z => absurd z w1, fun _ p1 hp1 => ?_⟩
      have c1 : cutV ub none (some (j : Int)) = ub.take j := by
        show (ub.drop 0).take (HT.sIx ub.length ub.length (some (j : Int)) - 0) = _
        rw [HT.sIx_nat, List.drop_zero, Nat.sub_zero, Nat.min_eq_left (by omega)]
      rw [c1]
      have s4 := Same.tr sm3 (same_new (o := .tup (ub.take j)) hp1)
      refine ⟨_, rfl, (by show 1 ≤ sizeLine; decide), fun p2 hp2 => ?_⟩
      have s5 := same_new (o := .tup [.ref q]) hp2
      have hm4 := s4 _ _ hm
      have n1 : p1 ≠ m := fun z => by
        rw [z, sm3 _ _ hm] at hp1
        cases hp1
      have n2 : p2 ≠ m := fun z => by
        rw [z, hm4] at hp2
        cases hp2
      show rCatA K _ _ _ _
      refine cat_any (m := m) (a := p1) (b := p2) (s5 _ _ upd_same) upd_same n1 n2 (s5 _ _ hm4) (by rw [List.length_take]; show _ + 1 ≤ _; exact Nat.le_of_lt (small6 (by omega))) (fun p3 H5 n3 s6 h3 => ?_)
      have sm6 : Same H H5 := Same.tr (Same.tr s4 s5) s6
      have hB5 := sm6 _ _ hB1
      have w2 : ¬ (HT.sIx ub.length 0 (some ((j + 1 : Nat) : Int)) = 0 ∧ HT.sIx ub.length ub.length none = ub.length) := fun z => by
        have := z.1
        rw [HT.sIx_nat] at this
        omega
      refine ⟨_, rfl, _, rfl, _, _, rfl, rfl, _, rfl, _, _, rfl, SqT.of hB5, fun z => absurd z w2, fun _ p4 hp4 => ?_⟩
      have c2 : cutV ub (some ((j : Int) + 1)) none = ub.drop (j + 1) := by
        show (ub.drop (HT.sIx ub.length 0 (some ((j + 1 : Nat) : Int)))).take (ub.length - HT.sIx ub.length 0 (some ((j + 1 : Nat) : Int))) = _
        rw [HT.sIx_nat, Nat.min_eq_left (by omega), List.take_of_length_le (by rw [List.length_drop]; omega)]
      rw [c2]
      have s7 := same_new (o := .tup (ub.drop (j + 1))) hp4
      have n4 : p4 ≠ m := fun z => by
        rw [z, sm6 _ _ hm] at hp4
        cases hp4
      show rCatA K _ _ _ _
      refine cat_any (m := m) (a := p3) (b := p4) (s7 _ _ h3) upd_same n3 n4 (s7 _ _ (sm6 _ _ hm)) (by rw [List.length_append, List.length_take, List.length_drop]; show _ + 1 + _ ≤ _; exact Nat.le_of_lt (small6 (by omega))) (fun p5 H6 n5 s8 h5 => ?_)
      have sm8 : Same H H6 := Same.tr (Same.tr sm6 s7) s8
      refine ⟨_, rfl, (by show 2 ≤ sizeLine; decide), fun p6 hp6 => ?_⟩
      have s9 := same_new (o := .tup [.ref p5, .bl (triedM v x (topM xs j)).2]) hp6
      have smAll : Same H _ := Same.tr sm8 s9
      have n6 : p6 ≠ m := fun z => by
        rw [z, sm8 _ _ hm] at hp6
        cases hp6
      refine k p6 _ (Same.free sm8 hp6) smAll (.tup n6 upd_same (.cons ?_ (.cons (.bl _) .nil)))
      refine .tup n5 (s9 _ _ h5) ?_
      have hq6 : H6 q = some (.tup (rowV (triedM v x (topM xs j)).1)) := s8 _ _ (s7 _ _ (s6 _ _ (s5 _ _ (same_new hp1 _ _ hq))))
      have aB6 := aB.mono (Same.but (m := m) smAll)
      have e9 : (xs.set j (triedM v x (topM xs j)).1).map rowD = ((xs.map rowD).take j ++ [rowD (triedM v x (topM xs j)).1]) ++ (xs.map rowD).drop (j + 1) := by
        rw [List.set_eq_take_append_cons_drop, if_pos hj, List.map_append, List.map_cons, List.map_take, List.map_drop, List.append_assoc]
        rfl
      rw [e9]
      exact all_app (all_app (all_take j aB6) (.cons (row_at nq (s9 _ _ hq6)) .nil)) (all_drop (j + 1) aB6)
end
end C78

set_option Elab.async false
set_option maxRecDepth 100000
set_option maxHeartbeats 4000000
set_option linter.all false
namespace C78
open PySem L2 My M78
abbrev sWait : Stmt := top 22
def waitL (ss : List (List Wd)) (xs : List Row) : Nat → List Nat
  | 0 => []
  | n + 1 => waitL ss xs n ++ (match ss[n]?, xs[n]? with | some s, some x => (if x.p < (s.length : Int) then [n] else []) | _, _ => [])
theorem waitL_len (ss : List (List Wd)) (xs : List Row) : ∀ n, (waitL ss xs n).length ≤ n
  | 0 => Nat.le_refl _
  | n + 1 => by
    have := waitL_len ss xs n
    unfold waitL
    rw [List.length_append]
    split
    · split <;> simp <;> omega
    · simp
      omega
section
variable {P : Program} {w : World} {K : PySem.W.Frag} {mg : Str → Option Value} {base : Heap}
abbrev nWait : List Str := ["scripts", "state", "at", "row"]
theorem scWait : FnScope nWait ["scripts", "state"] (defScope sWait) := ⟨rfl, rfl, rfl, by decide +kernel, rfl, by decide +kernel, by decide +kernel⟩
/-- the scripts that have steps left -/
def spWait : Sp := fun vs H Q _ => ∃ (m A B : Addr) (ss : List (List Wd)) (xs : List Row), vs = [.ref A, .ref B] ∧ At m H (.ref A) (scD ss) ∧ At m H (.ref B) (stD xs) ∧
  ss.length = xs.length ∧ xs.length ≤ 1000 ∧
  ∀ (q : Addr) (H' : Hp), H q = none → Same H H' → H' q = some (.lst ((waitL ss xs xs.length).map fun k : Nat => V.int (k : Int))) → Q (.ref q) H'
theorem pr_wait (D : Df K mg "waiting_ones" sWait ["scripts", "state"]) (T : Tx mg) : Pr P w K mg base 4 "waiting_ones" ["scripts", "state"] spWait := by
  refine D.pr scWait (fun vs H Q E h => ?_) (fun f cdv A outer s H vs Q E hr h => ?_)
  · obtain ⟨m, A, B, ss, xs, rfl, _⟩ := h
    rfl
  · obtain ⟨m, A, B, ss, xs, rfl, hA, hB, hle, hlen, k⟩ := h
    have nd := scWait.nd
    refine ⟨_, (pss_one (ps_ret (pe_lc (own := [("at", 2), ("row", 3)]) (g := gTup K 2 (gCons (gName 2) (gCons (gName 3) gNil))) (tt := tTest (tOp (rI0 fun i j => .bl (decide (i < j))) (tOp (rIxT K) (tVar 3) (tC (.int 0))) (tCB (fun xs H Q => ∃ x n, xs = [x] ∧ LenV K x H n ∧ Q (.int n) H) (tCons (tOp (rIxT K) (tVar 0) (tVar 2)) tNil)))) (by rfl) nd (pi_enumT (by rfl) T.enumerate (pa_cons (pv 1) pa_nil))
  (blkOk_by (own := [("at", 2), ("row", 3)]) (N := nWait) (sc := defScope sWait) (by decide +kernel))
  (fun _ _ _ _ _ => pg_tup rfl (pgs_cons (pg_name (i := 2) nd rfl (Or.inl rfl) (Or.inr rfl)) (pgs_cons (pg_name (i := 3) nd rfl (Or.inl rfl) (Or.inr rfl)) pgs_nil))) (fun _ _ _ _ _ => pts_one (pt_cmpR op_lt (pe_ix ix_tup (pv 3) pe_int (fun _ _ => rfl)) (pe_callB call_len (by rfl) T.len PySem.boot_len (pa_cons (pe_ix ix_tup (pv 0) (pv 2) (fun _ _ => rfl)) pa_nil)) (nomark _)))
  (fun _ _ _ _ _ => (pv 2))))), ?_⟩
    obtain ⟨_, ua, ea, nA, hA1, aA⟩ := at_tup hA
    cases ea
    obtain ⟨_, ub, eb, nB, hB1, aB⟩ := at_tup hB
    cases eb
    have lub : ub.length = xs.length := by
      rw [aB.length, List.length_map]
    refine ⟨_, rfl, _, _, rfl, SqT.of hB1, fun Dl hD => ?_⟩
    refine lc_it (walk_enumT (xs := ub)) (fun i H2 => Same H H2 ∧ H2 Dl = some (.lst ((waitL ss xs i).map fun k : Nat => V.int (k : Int)))) ?_ ?_ ?_ ?_
    · exact ⟨same_new hD, upd_same⟩
    · exact fun i H2 _ q => SqT.of (q.1 _ _ hB1)
    · rintro i y H2 H3 hi ⟨sm, hl⟩ ⟨T2, i', vr, rfl, hT2, rfl, ei, er⟩
      obtain rfl : V.int (i : Nat) = i' := Option.some.inj ei
      have hix : i < xs.length := by omega
      have his : i < ss.length := by omega
      obtain ⟨dr, e1, ar⟩ := aB.get er
      rw [List.getElem?_map, List.getElem?_eq_getElem hix] at e1
      cases e1
      obtain ⟨R, rfl, nR, hR⟩ := row_of ar
      obtain ⟨vsc, es1, asc⟩ := all_get (i := i) (d := .tuple (ss[i].map fun v => .str (wS v))) aA (by rw [List.getElem?_map, List.getElem?_eq_getElem his]; rfl)
      obtain ⟨aS, us, rfl, nS, hS, aS2⟩ := at_tup asc
      have lus : us.length = ss[i].length := by
        rw [aS2.length, List.length_map]
      have sT : Same H (upd H2 T2 (.tup [.int (i : Nat), .ref R])) := Same.tr sm (same_new hT2)
      have nDT : Dl ≠ T2 := ne_of_none hl hT2
      have hl3 : (upd H2 T2 (.tup [.int (i : Nat), .ref R])) Dl = some (.lst ((waitL ss xs i).map fun k : Nat => V.int (k : Int))) := by
        rw [upd_ne nDT]
        exact hl
      have hw : waitL ss xs (i + 1) = waitL ss xs i ++ (if xs[i].p < (ss[i].length : Int) then [i] else []) := by
        show waitL ss xs i ++ (match ss[i]?, xs[i]? with | some s, some x => (if x.p < (s.length : Int) then [i] else []) | _, _ => []) = _
        rw [List.getElem?_eq_getElem hix, List.getElem?_eq_getElem his]
      refine ⟨_, _, rfl, SqT.of upd_same, rfl, _, _, rfl, _, _, rfl, rfl, rfl, ?_⟩
      refine ⟨_, rfl, _, _, _, _, rfl, rfl, SqT.of (sT _ _ hR), rfl, ?_⟩
      refine ⟨_, rfl, _, rfl, _, _, _, _, rfl, rfl, SqT.of (sT _ _ hA1), atI_nat es1, ?_⟩
      refine ⟨_, _, rfl, (Or.inr ⟨_, SqT.of (sT _ _ hS), rfl⟩), ?_⟩
      refine ⟨_, _, rfl, rfl, _, rfl, ?_⟩
      rw [lus]
      by_cases hij : xs[i].p < (ss[i].length : Int)
      · rw [decide_eq_true hij]
        refine iteT ⟨_, rfl, _, hl3, ?_, ?_, ?_⟩
        · rw [List.length_map]
          have := waitL_len ss xs i
          exact small6 (by omega)
        · intro b u e
          rw [upd_ne (ne_of_none e hD)]
          exact sT _ _ e
        · rw [upd_same, hw, if_pos hij, List.map_append]
          rfl
      · rw [decide_eq_false hij]
        refine iteF ⟨sT, ?_⟩
        rw [hl3, hw, if_neg hij, List.append_nil]
    · rintro H2 ⟨s2, hl⟩
      rw [lub] at hl
      exact k _ _ hD s2 hl
end
end C78

set_option Elab.async false
set_option maxRecDepth 100000
set_option maxHeartbeats 4000000
set_option linter.all false
namespace C78
open PySem L2 My M78
abbrev sIsList : Stmt := top 13
abbrev sNum : Stmt := top 24
section
variable {P : Program} {w : World} {K : PySem.W.Frag} {mg : Str → Option Value} {base : Heap}
abbrev nIsList : List Str := ["thing"]
theorem scIsList : FnScope nIsList ["thing"] (defScope sIsList) := ⟨rfl, rfl, rfl, by decide +kernel, rfl, by decide +kernel, by decide +kernel⟩
def lt2 : PyData → Bool
  | .list _ => true
  | .tuple _ => true
  | _ => false
/-- a list or a tuple -/
def spIsList : Sp := fun vs H Q _ => ∃ (m : Addr) (o : HO) (x : V) (d : PyData), H m = some o ∧ vs = [x] ∧ At m H x d ∧ ∀ H', Same H H' → Q (.bl (lt2 d)) H'
theorem pr_isList (D : Df K mg "is_list" sIsList ["thing"]) (T : Ty mg) : Pr P w K mg base 1 "is_list" ["thing"] spIsList := by
  refine D.pr scIsList (fun vs H Q E h => ?_) (fun f cdv A outer s H vs Q E hr h => ?_)
  · obtain ⟨m, o, x, d, hm, rfl, _⟩ := h
    rfl
  · obtain ⟨m, o, x, d, hm, rfl, ha, k⟩ := h
    have nd := scIsList.nd
    refine ⟨_, (pss_one (ps_ret (pe_callB call_isiT (by rfl) T.isinstance (by decide +kernel) (pa_cons (pv 0) (pa_cons (pe_tup (pa_cons (pe_bltn (v := .ty "list") (by rfl) T.list (by decide +kernel) rfl) (pa_cons (pe_bltn (v := .ty "tuple") (by rfl) T.tuple (by decide +kernel) rfl) pa_nil))) pa_nil))))), ?_⟩
    refine ⟨_, rfl, (by show 2 ≤ sizeLine; decide), fun tp htp => ?_⟩
    have sm := same_new (o := .tup [.ty "list", .ty "tuple"]) htp
    have ha2 := ha.mono (Same.but (m := m) sm)
    refine ⟨_, _, _, _, _, lt2 d, rfl, upd_same, cls_all ["list", "tuple"], ha2.ty, kit_any ?_, ?_⟩
    · cases ha
      · exact k_NoneType_lt
      · exact k_bool_lt
      · exact k_int_lt
      · exact k_str_lt
      · exact k_list_lt
      · exact k_tuple_lt
    · exact k _ sm
abbrev nNum : List Str := ["thing", "many"]
theorem scNum : FnScope nNum ["thing", "many"] (defScope sNum) := ⟨rfl, rfl, rfl, by decide +kernel, rfl, by decide +kernel, by decide +kernel⟩
/-- a number below many -/
def spNum : Sp := fun vs H Q _ => ∃ (x : V) (n : Int), vs = [x, .int n] ∧ ((∃ i, x = .int i ∧ Q (.bl (decide (0 ≤ i ∧ i < n))) H) ∨ (∃ b, x = .bl b ∧ Q (.bl false) H) ∨ (∃ T, (∀ K, TyX K H x (.type T)) ∧ kitB T "int" = some false ∧ Q (.bl false) H))
theorem pr_num (D : Df K mg "is_number" sNum ["thing", "many"]) (T : Ty mg) : Pr P w K mg base 1 "is_number" ["thing", "many"] spNum := by
  refine D.pr scNum (fun vs H Q E h => ?_) (fun f cdv A outer s H vs Q E hr h => ?_)
  · obtain ⟨x, n, rfl, _⟩ := h
    rfl
  · obtain ⟨x, n, rfl, h⟩ := h
    have nd := scNum.nd
    refine ⟨_, (pss_one (ps_ret (pe_and (pe_callB call_isi (by rfl) T.isinstance (by decide +kernel) (pa_cons (pv 0) (pa_cons (pe_bltn (v := .ty "int") (by rfl) T.int (by decide +kernel) rfl) pa_nil))) (pe_and (pe_not (pe_callB call_isi (by rfl) T.isinstance (by decide +kernel) (pa_cons (pv 0) (pa_cons (pe_bltn (v := .ty "bool") (by rfl) T.bool (by decide +kernel) rfl) pa_nil)))) (pe_one (pe_chain op_le op_lt pe_int (pv 0) (pv 1))))))), ?_⟩
    rcases h with ⟨i, rfl, q⟩ | ⟨b, rfl, q⟩ | ⟨T9, ty, kn, q⟩
    · refine ⟨_, rfl, _, _, _, _, true, rfl, .ty "int", .base (.int i), kit_ty k_int_int, ?_⟩
      refine ⟨_, rfl, iteT ?_⟩
      refine ⟨_, rfl, _, _, _, _, false, rfl, .ty "bool", .base (.int i), kit_ty k_int_bool, ?_⟩
      refine ⟨_, rfl, _, rfl, iteT ?_⟩
      refine ⟨_, rfl, _, _, rfl, rfl, _, rfl, ?_⟩
      by_cases h1 : (0 : Int) ≤ i
      · rw [decide_eq_true h1]
        refine iteT ⟨_, rfl, _, _, rfl, rfl, ?_⟩
        rw [show decide (0 ≤ i ∧ i < n) = decide (i < n) from by simp [h1]] at q
        exact q
      · rw [decide_eq_false h1]
        refine iteF ?_
        rw [show decide (0 ≤ i ∧ i < n) = false from by simp [h1]] at q
        exact q
    · refine ⟨_, rfl, _, _, _, _, true, rfl, .ty "int", .base (.bl b), kit_ty k_bool_int, ?_⟩
      refine ⟨_, rfl, iteT ?_⟩
      refine ⟨_, rfl, _, _, _, _, true, rfl, .ty "bool", .base (.bl b), kit_ty k_bool_bool, ?_⟩
      exact ⟨_, rfl, _, rfl, iteF q⟩
    · refine ⟨_, rfl, _, _, _, _, false, rfl, .ty "int", ty _, kit_ty kn, ?_⟩
      exact ⟨_, rfl, iteF q⟩
end
end C78

set_option Elab.async false
set_option maxRecDepth 100000
set_option linter.all false
/-! Iterating a list or a tuple, whichever it is. -/
namespace My
open PySem L2
section
variable {X : Cx} {tg e : Expr}
theorem pi_or {wa wb : TI} (ha : PI X tg e wa) (hb : PI X tg e wb) : PI X tg e (fun σ H R => wa σ H R ∨ wb σ H R) := ⟨fun pins s σ H R I h => by
  rcases h with h | h
  · exact ha.run pins s σ H R I h
  · exact hb.run pins s σ H R I h⟩
def iSq (K : PySem.W.Frag) (tl : TE) : TI := fun σ H R => iList K tl σ H R ∨ iTup K tl σ H R
theorem pi_sq {tl : TE} (hl : PE X e tl) : PI X tg e (iSq X.K tl) := pi_or (pi_list hl) (pi_tup hl)
/-- a list or a tuple of these -/
def Sq (H : Hp) (a : Addr) (us : List V) : Prop := H a = some (.lst us) ∨ H a = some (.tup us)
theorem Sq.same {H H' : Hp} {a : Addr} {us : List V} (s : Same H H') (h : Sq H a us) : Sq H' a us := h.elim (fun h => .inl (s _ _ h)) fun h => .inr (s _ _ h)
theorem Sq.len {K : PySem.W.Frag} {H : Hp} {a : Addr} {us : List V} (h : Sq H a us) : LenV K (.ref a) H us.length := h.elim (fun h => .inl ⟨_, SqL.of h, rfl⟩) fun h => .inr ⟨_, SqT.of h, rfl⟩
theorem isq {K : PySem.W.Frag} {tl : TE} {σ : L2.St} {H : Hp} {R : It → Hp → Prop} {a : Addr} {us : List V} (ht : ∀ Q : VK, Q (.ref a) H → tl σ H Q) (h : Sq H a us)
    (k : ∀ (J : It) (G : Hp → Prop), Walk J us.length G (YAt us) → (∀ H', (∀ o, H a = some o → H' a = some o) → G H') → R J H) : iSq K tl σ H R := by
  rcases h with h | h
  · exact .inl (ht _ ⟨a, rfl, ⟨us, SqL.of h⟩, k _ (fun H' => SqL K H' a us) walk_list (fun H' q => SqL.of (q _ h))⟩)
  · exact .inr (ht _ ⟨a, rfl, ⟨us, SqT.of h⟩, k _ (fun H' => SqT K H' a us) walk_tup (fun H' q => SqT.of (q _ h))⟩)
end
end My

set_option Elab.async false
set_option maxRecDepth 100000
set_option maxHeartbeats 4000000
set_option linter.all false
namespace C78
open PySem L2 My M78
abbrev sIsScript : Stmt := top 14
/-- the flags behind a word -/
def opB (v : Wd) (o : Bool) : Bool := isOp v || (o && !isEn v)
def rdB (v : Wd) (r : Bool) : Bool := decide (v = .sta) || (r && !decide (v = .sto))
def okW (v : Wd) (o r : Bool) : Bool := !(isOp v && o || (isEn v && !o)) && !(decide (v = .sta) && r || (decide (v = .sto) && !r))
def okS : Bool → Bool → List Wd → Bool
  | _, _, [] => true
  | o, r, v :: vs => okW v o r && okS (opB v o) (rdB v r) vs
/-- the flags behind n words -/
def flg (sc : List Wd) : Nat → Bool × Bool
  | 0 => (false, false)
  | n + 1 => match sc[n]? with | some v => (opB v (flg sc n).1, rdB v (flg sc n).2) | none => flg sc n
theorem in_all (v : Wd) : (!inV (.str (wS v)) (([.str (Str.ofString "begin"), .str (Str.ofString "immediate"), .str (Str.ofString "exclusive")] ++ [.str (Str.ofString "commit"), .str (Str.ofString "rollback")]) ++ [.str (Str.ofString "read"), .str (Str.ofString "start"), .str (Str.ofString "stop"), .str (Str.ofString "write")])) = false := by cases v <;> decide +kernel
theorem asg_tv {te : TE} {g : TG} {D : Ends} {σ : L2.St} {H : Hp} (x : V) (h : ∀ Q' : VK, Q' x H → te σ H Q') (k : g x σ H D.nx) : tAsg te g D σ H := h _ k
theorem seq_asg_tv {te : TE} {g : TG} {r : TS} {D : Ends} {σ : L2.St} {H : Hp} (x : V) (h : ∀ Q' : VK, Q' x H → te σ H Q') (k : g x σ H (r D)) : tSeq (tAsg te g) r D σ H := h _ k
section
variable {P : Program} {w : World} {K : PySem.W.Frag} {mg : Str → Option Value} {base : Heap}
abbrev nIsScript : List Str := ["thing", "opened", "reads", "step"]
theorem scIsScript : FnScope nIsScript ["thing"] (defScope sIsScript) := ⟨rfl, rfl, rfl, by decide +kernel, rfl, by decide +kernel, by decide +kernel⟩
/-- a script of known words, each allowed where it stands -/
def spIsScript : Sp := fun vs H Q _ => ∃ (m p : Addr) (o : HO) (sc : List Wd) (d : PyData), H m = some o ∧ vs = [.ref p] ∧ At m H (.ref p) d ∧ (d = .list (sc.map fun v => .str (wS v)) ∨ d = .tuple (sc.map fun v => .str (wS v))) ∧
  sc.length ≤ 8 ∧ (∀ n v, sc[n]? = some v → okW v (flg sc n).1 (flg sc n).2 = true) ∧ ∀ H', Same H H' → Q (.bl true) H'
theorem pr_isScript (D : Df K mg "is_script" sIsScript ["thing"]) (T : Ty mg) (T3 : mg "str" = none) (G : Tk K mg) (PL : Pr P w K mg base 1 "is_list" ["thing"] spIsList) : Pr P w K mg base 2 "is_script" ["thing"] spIsScript := by
  refine D.pr scIsScript (fun vs H Q E h => ?_) (fun f cdv A outer s H vs Q E hr h => ?_)
  · obtain ⟨m, p, o, sc, d, hm, rfl, _⟩ := h
    rfl
  · obtain ⟨m, p, o, sc, d, hm, rfl, ha, hd, hl, hok, k⟩ := h
    have nd := scIsScript.nd
    obtain ⟨aOp, gOp, qOp⟩ := G.op
    obtain ⟨aEn, gEn, qEn⟩ := G.en
    obtain ⟨aOt, gOt, qOt⟩ := G.ot
    refine ⟨_, (pss_cons (ps_if (PW.pt (pw_or (pt_not (pt_val (pe_callP PL hr (by rfl) (pa_cons (pv 0) pa_nil)))) (pw_or1 (pt_cmpR op_gt (pe_callB call_len (by rfl) T.len PySem.boot_len (pa_cons (pv 0) pa_nil)) pe_int (nomark _)))))
        (pss_one (ps_ret pe_bl))
        pss_nil)
      (pss_cons (ps_asg2 pe_bl (pg_name (i := 1) nd rfl (Or.inl rfl)) (pg_name (i := 2) nd rfl (Or.inl rfl)))
      (pss_cons (ps_for PassesOwn.never rfl (pi_sq (pv 0)) (pg_name (i := 3) nd rfl (Or.inl rfl))
        (pss_cons (ps_if (PW.pt (pw_or (pt_not (pt_val (pe_callB call_isi (by rfl) T.isinstance (by decide +kernel) (pa_cons (pv 3) (pa_cons (pe_bltn (v := .ty "str") (by rfl) T3 (by decide +kernel) rfl) pa_nil))))) (pw_or1 (pt_cmpR op_notIn_seq (pv 3) (pe_op op_catA (pe_op op_catA (pe_gR rfl gOp) (pe_gR rfl gEn)) (pe_gR rfl gOt)) (by rfl)))))
          (pss_one (ps_ret pe_bl))
          pss_nil)
        (pss_cons (ps_if (PW.pt (pw_or (PW.pt (pw_and (pt_cmpR op_in_seq (pv 3) (pe_gR rfl gOp) (by rfl)) (pw_and1 (pt_val (pv 1))))) (pw_or1 (PW.pt (pw_and (pt_cmpR op_in_seq (pv 3) (pe_gR rfl gEn) (by rfl)) (pw_and1 (pt_not (pt_val (pv 1)))))))))
          (pss_one (ps_ret pe_bl))
          pss_nil)
        (pss_cons (ps_if (PW.pt (pw_or (PW.pt (pw_and (pt_cmpR op_eq (pv 3) pe_str (nomark _)) (pw_and1 (pt_val (pv 2))))) (pw_or1 (PW.pt (pw_and (pt_cmpR op_eq (pv 3) pe_str (nomark _)) (pw_and1 (pt_not (pt_val (pv 2)))))))))
          (pss_one (ps_ret pe_bl))
          pss_nil)
        (pss_cons (ps_asg (pe_or (pe_cmpR op_in_seq (pv 3) (pe_gR rfl gOp) (by rfl)) (pe_one (pe_and (pv 1) (pe_one (pe_cmpR op_notIn_seq (pv 3) (pe_gR rfl gEn) (by rfl)))))) (pg_name (i := 1) nd rfl (Or.inl rfl)))
        (pss_one (ps_asg (pe_or (pe_cmpR op_eq (pv 3) pe_str (nomark _)) (pe_one (pe_and (pv 2) (pe_one (pe_cmpR op_ne (pv 3) pe_str (nomark _)))))) (pg_name (i := 2) nd rfl (Or.inl rfl)))))))))
      (pss_one (ps_ret pe_bl))))), ?_⟩
    obtain ⟨us, hsq, hus⟩ : ∃ us, Sq H p us ∧ AtAll m H us (sc.map fun v => .str (wS v)) := by
      rcases hd with rfl | rfl
      · cases ha with
        | lst n e q => exact ⟨_, .inl e, q⟩
      · cases ha with
        | tup n e q => exact ⟨_, .inr e, q⟩
    have hlen : us.length = sc.length := by
      rw [hus.length, List.length_map]
    have hlt : lt2 d = true := by
      rcases hd with rfl | rfl <;> rfl
    refine ⟨_, rfl, m, o, _, d, hm, rfl, ha, fun H1 s1 => ?_⟩
    rw [hlt]
    refine ⟨_, rfl, iteF ?_⟩
    refine ⟨_, rfl, _, _, rfl, (hsq.same s1).len, _, _, rfl, rfl, _, rfl, ?_⟩
    rw [decide_eq_false (show ¬ ((8 : Int) < (us.length : Int)) by omega)]
    refine iteF ?_
    refine isq (a := p) (us := us) (fun Q q => ⟨_, rfl, q⟩) (hsq.same s1) (fun J G W hG => ?_)
    refine for_it W (fun i σ H2 => Same H1 H2 ∧ ∃ o3, σ = [some (.ref p), some (.bl (flg sc i).1), some (.bl (flg sc i).2), o3]) ⟨fun _ _ e => e, _, rfl⟩ (fun i σ H2 _ q => hG _ (fun _ e => q.1 _ _ e)) ?_ ?_
    · rintro i x σ H2 H3 hi ⟨s2, o3, rfl⟩ ⟨rfl, ex⟩
      obtain ⟨dx, e1, ax⟩ := hus.get ex
      have his : i < sc.length := by omega
      have hv : sc[i]? = some sc[i] := List.getElem?_eq_getElem his
      rw [List.getElem?_map, hv] at e1
      cases e1
      cases ax
      have hw := hok i _ hv
      have hf : flg sc (i + 1) = (opB sc[i] (flg sc i).1, rdB sc[i] (flg sc i).2) := by
        show (match sc[i]? with | some v => (opB v (flg sc i).1, rdB v (flg sc i).2) | none => flg sc i) = _
        rw [hv]
      rw [hf]
      generalize sc[i] = v at *
      generalize (flg sc i).1 = fo at *
      generalize (flg sc i).2 = fr at *
      refine ⟨_, rfl, _, _, _, _, true, rfl, .ty "str", .base (.str _), kit_ty k_str_str, ?_⟩
      refine ⟨_, rfl, iteF ?_⟩
      have eSta : decide (V.str (wS v) = V.str (Str.ofString "start")) = decide (v = .sta) := eqW v .sta
      have eSto : decide (V.str (wS v) = V.str (Str.ofString "stop")) = decide (v = .sto) := eqW v .sto
      refine ⟨_, rfl, ?_⟩
      refine ⟨aOp, aEn, _, _, rfl, rfl, qOp _, qEn _, (by show 5 ≤ sizeLine; decide), (fun e => nomatch e), (fun _ e => nomatch e), fun _ _ p1 hp1 => ?_⟩
      have t1 := same_new (o := .tup ([.str (Str.ofString "begin"), .str (Str.ofString "immediate"), .str (Str.ofString "exclusive")] ++ [.str (Str.ofString "commit"), .str (Str.ofString "rollback")])) hp1
      refine ⟨p1, aOt, _, _, rfl, rfl, SqT.of upd_same, qOt _, (by show 9 ≤ sizeLine; decide), (fun e => nomatch e), (fun _ e => nomatch e), fun _ _ p2 hp2 => ?_⟩
      have t2 := same_new (o := .tup (([.str (Str.ofString "begin"), .str (Str.ofString "immediate"), .str (Str.ofString "exclusive")] ++ [.str (Str.ofString "commit"), .str (Str.ofString "rollback")]) ++ [.str (Str.ofString "read"), .str (Str.ofString "start"), .str (Str.ofString "stop"), .str (Str.ofString "write")])) hp2
      refine ⟨_, _, rfl, .inr (SqT.of upd_same), rfl, rfl, _, rfl, ?_⟩
      rw [in_all v]
      refine iteF ?_
      have s4 := Same.tr s2 (Same.tr t1 t2)
      dsimp only [tNext]
      refine seq_if_tv false (fun K' kk => ?_) (fun hb => by cases hb) (fun _ => ?_)
      · refine ⟨_, rfl, _, _, rfl, .inr (qOp _), rfl, rfl, _, rfl, ?_⟩
        rw [in_op v]
        cases hop : isOp v
        · refine iteF (iteF ⟨_, rfl, _, _, rfl, .inr (qEn _), rfl, rfl, _, rfl, ?_⟩)
          rw [in_en v]
          cases hen : isEn v
          · exact iteF kk
          · have hfo : fo = true := by
              cases fo
              · simp [okW, hop, hen] at hw
              · rfl
            subst hfo
            exact iteT ⟨_, rfl, _, rfl, kk⟩
        · have hfo : fo = false := by
            cases fo
            · rfl
            · simp [okW, hop] at hw
          subst hfo
          refine iteT ⟨_, rfl, _, rfl, iteF ⟨_, rfl, _, _, rfl, .inr (qEn _), rfl, rfl, _, rfl, ?_⟩⟩
          have hen : isEn v = false := by
            cases v <;> first | rfl | cases hop
          rw [in_en v, hen]
          exact iteF kk
      dsimp only [tNext]
      refine seq_if_tv false (fun K' kk => ?_) (fun hb => by cases hb) (fun _ => ?_)
      · refine ⟨_, rfl, rfl, _, rfl, ?_⟩
        rw [eSta]
        by_cases hst : v = .sta
        · have hfr : fr = false := by
            cases fr
            · rfl
            · simp [okW, hst] at hw
          rw [decide_eq_true hst]
          subst hfr
          refine iteT ⟨_, rfl, _, rfl, iteF ⟨_, rfl, rfl, _, rfl, ?_⟩⟩
          rw [eSto, decide_eq_false (show ¬ v = .sto by rw [hst]; decide)]
          exact iteF kk
        · rw [decide_eq_false hst]
          refine iteF (iteF ⟨_, rfl, rfl, _, rfl, ?_⟩)
          rw [eSto]
          by_cases hso : v = .sto
          · have hfr : fr = true := by
              cases fr
              · simp [okW, hso] at hw
              · rfl
            rw [decide_eq_true hso]
            subst hfr
            exact iteT ⟨_, rfl, _, rfl, kk⟩
          · rw [decide_eq_false hso]
            exact iteF kk
      dsimp only [tNext]
      refine seq_asg_tv (.bl (opB v fo)) (fun Q' kk => ?_) ?_
      · refine ⟨_, rfl, _, _, rfl, .inr (qOp _), rfl, rfl, _, rfl, ?_⟩
        rw [in_op v]
        unfold opB at kk
        cases hop : isOp v
        · rw [hop] at kk
          refine iteF ⟨_, rfl, _, rfl, ?_⟩
          cases fo
          · exact iteF kk
          · refine iteT ⟨_, rfl, _, _, rfl, .inr (qEn _), rfl, rfl, ?_⟩
            rw [in_en v]
            exact kk
        · rw [hop] at kk
          exact iteT kk
      dsimp only [gName]
      refine asg_tv (.bl (rdB v fr)) (fun Q' kk => ?_) ?_
      · refine ⟨_, rfl, rfl, _, rfl, ?_⟩
        rw [eSta]
        unfold rdB at kk
        cases hop : decide (v = .sta)
        · rw [hop] at kk
          refine iteF ⟨_, rfl, _, rfl, ?_⟩
          cases fr
          · exact iteF kk
          · refine iteT ⟨_, rfl, rfl, ?_⟩
            rw [eSto]
            exact kk
        · rw [hop] at kk
          exact iteT kk
      exact ⟨s4, _, rfl⟩
    · rintro σ H2 ⟨s2, o3, rfl⟩
      exact k _ (Same.tr s1 s2)
end
end C78

set_option Elab.async false
set_option maxRecDepth 100000
set_option maxHeartbeats 4000000
set_option linter.all false
namespace C78
open PySem L2 My M78
abbrev sRefused : Stmt := top 33
def refM (v : Wd) (o : Bool) (l t : Int) : Bool :=
  if isRs v = true then decide (l = 0) && decide (2 < t)
  else if (decide (v = .wri) && o) = true then decide (l < 2) && decide (1 < t)
  else if v = .imm then decide (1 < t)
  else if v = .com then decide (1 < l) && decide (0 < t)
  else (v == .wri || v == .exc) && decide (0 < t)
theorem in_we (v : Wd) : inV (.str (wS v)) [.str (Str.ofString "write"), .str (Str.ofString "exclusive")] = (v == .wri || v == .exc) := by cases v <;> decide +kernel
section
variable {P : Program} {w : World} {K : PySem.W.Frag} {mg : Str → Option Value} {base : Heap}
theorem and_tv {ta tb : TE} {σ : L2.St} {H : Hp} {Q : VK} (a c : Bool) (h1 : ∀ Q' : VK, Q' (.bl a) H → ta σ H Q') (h2 : ∀ Q' : VK, Q' (.bl c) H → tb σ H Q') (k : Q (.bl (a && c)) H) : tAndV ta tb σ H Q := h1 _ ⟨a, rfl, by
  cases a
  · exact iteF k
  · exact iteT (h2 _ k)⟩
theorem scRefused : FnScope ["_law_word", "_law_opened", "_law_lock", "_law_top"] ["_law_word", "_law_opened", "_law_lock", "_law_top"] (defScope sRefused) := ⟨rfl, rfl, rfl, by decide +kernel, rfl, by decide +kernel, by decide +kernel⟩
def spRefused : Sp := fun vs H Q _ => ∃ (v : Wd) (o : Bool) (l t : Int), vs = [.str (wS v), .bl o, .int l, .int t] ∧ ∀ H', Same H H' → Q (.bl (refM v o l t)) H'
theorem pr_refused (D : Df K mg "_law_refused" sRefused ["_law_word", "_law_opened", "_law_lock", "_law_top"]) : Pr P w K mg base 1 "_law_refused" ["_law_word", "_law_opened", "_law_lock", "_law_top"] spRefused := by
  refine D.pr scRefused (fun vs H Q E h => ?_) (fun f cdv A outer s H vs Q E hr h => ?_)
  · obtain ⟨v, o, l, t, rfl, _⟩ := h
    rfl
  · obtain ⟨v, o, l, t, rfl, k⟩ := h
    have nd := scRefused.nd
    have eW : ∀ u, decide (V.str (wS v) = V.str (wS u)) = decide (v = u) := eqW v
    unfold refM at k
    refine ⟨_, (pss_cons (ps_if (pt_cmpR op_in_seq (pv 0) (pe_tup (pa_cons pe_str (pa_cons pe_str pa_nil))) (by rfl))
        (pss_one (ps_ret (pe_and (pe_cmpR op_eq (pv 2) pe_int (nomark _)) (pe_one (pe_cmpR op_gt (pv 3) pe_int (nomark _))))))
        pss_nil)
      (pss_cons (ps_if (PW.pt (pw_and (pt_cmpR op_eq (pv 0) pe_str (nomark _)) (pw_and1 (pt_val (pv 1)))))
        (pss_one (ps_ret (pe_and (pe_cmpR op_lt (pv 2) pe_int (nomark _)) (pe_one (pe_cmpR op_gt (pv 3) pe_int (nomark _))))))
        pss_nil)
      (pss_cons (ps_if (pt_cmpR op_eq (pv 0) pe_str (nomark _))
        (pss_one (ps_ret (pe_cmpR op_gt (pv 3) pe_int (nomark _))))
        pss_nil)
      (pss_cons (ps_if (pt_cmpR op_eq (pv 0) pe_str (nomark _))
        (pss_one (ps_ret (pe_and (pe_cmpR op_gt (pv 2) pe_int (nomark _)) (pe_one (pe_cmpR op_gt (pv 3) pe_int (nomark _))))))
        pss_nil)
      (pss_one (ps_ret (pe_and (pe_cmpR op_in_seq (pv 0) (pe_tup (pa_cons pe_str (pa_cons pe_str pa_nil))) (by rfl)) (pe_one (pe_cmpR op_gt (pv 3) pe_int (nomark _)))))))))), ?_⟩
    refine ⟨_, rfl, (by show 2 ≤ sizeLine; decide), fun tp htp => ?_⟩
    have s1 := same_new (o := .tup [.str (Str.ofString "read"), .str (Str.ofString "start")]) htp
    refine ⟨_, _, rfl, .inr (SqT.of upd_same), rfl, rfl, _, rfl, ?_⟩
    rw [in_rs v]
    refine ite2 (fun h1 => ?_) (fun h1 => ?_)
    · rw [if_pos (show isRs v = true from h1)] at k
      refine and_tv (decide (l = 0)) (decide (2 < t)) (fun Q' kk => ⟨_, rfl, rfl, ?_⟩) (fun Q' kk => ⟨_, rfl, _, _, rfl, rfl, kk⟩) (k _ s1)
      rw [vint]
      exact kk
    rw [if_neg (show ¬ isRs v = true from h1)] at k
    dsimp only [tNext]
    refine seq_if_tv (decide (v = .wri) && o) (fun K' kk => ?_) (fun h2 => ?_) (fun h2 => ?_)
    · refine ⟨_, rfl, rfl, _, rfl, ?_⟩
      rw [show decide (V.str (wS v) = V.str (Str.ofString "write")) = decide (v = .wri) from eqW v .wri]
      cases hh : decide (v = .wri)
      · rw [hh] at kk
        exact iteF kk
      · rw [hh] at kk
        exact iteT ⟨_, rfl, _, rfl, kk⟩
    · rw [if_pos h2] at k
      exact and_tv (decide (l < 2)) (decide (1 < t)) (fun Q' kk => ⟨_, rfl, _, _, rfl, rfl, kk⟩) (fun Q' kk => ⟨_, rfl, _, _, rfl, rfl, kk⟩) (k _ s1)
    rw [if_neg (by rw [h2]; decide)] at k
    dsimp only [tNext]
    refine seq_if_tv (decide (v = .imm)) (fun K' kk => ⟨_, rfl, rfl, _, rfl, ?_⟩) (fun h3 => ?_) (fun h3 => ?_)
    · rw [show decide (V.str (wS v) = V.str (Str.ofString "immediate")) = decide (v = .imm) from eqW v .imm]
      exact kk
    · rw [if_pos (of_decide_eq_true h3)] at k
      exact ⟨_, rfl, _, _, rfl, rfl, k _ s1⟩
    rw [if_neg (of_decide_eq_false h3)] at k
    dsimp only [tNext]
    refine seq_if_tv (decide (v = .com)) (fun K' kk => ⟨_, rfl, rfl, _, rfl, ?_⟩) (fun h4 => ?_) (fun h4 => ?_)
    · rw [show decide (V.str (wS v) = V.str (Str.ofString "commit")) = decide (v = .com) from eqW v .com]
      exact kk
    · rw [if_pos (of_decide_eq_true h4)] at k
      exact and_tv (decide (1 < l)) (decide (0 < t)) (fun Q' kk => ⟨_, rfl, _, _, rfl, rfl, kk⟩) (fun Q' kk => ⟨_, rfl, _, _, rfl, rfl, kk⟩) (k _ s1)
    rw [if_neg (of_decide_eq_false h4)] at k
    dsimp only [tNext]
    refine ⟨_, rfl, (by show 2 ≤ sizeLine; decide), fun tq htq => ?_⟩
    have s2 := Same.tr s1 (same_new (o := .tup [.str (Str.ofString "write"), .str (Str.ofString "exclusive")]) htq)
    refine ⟨_, _, rfl, .inr (SqT.of upd_same), rfl, rfl, _, rfl, ?_⟩
    rw [in_we v]
    cases hw : (v == .wri || v == .exc)
    · rw [hw] at k
      exact iteF (k _ s2)
    · rw [hw] at k
      exact iteT ⟨_, rfl, _, _, rfl, rfl, k _ s2⟩
end
end C78

set_option Elab.async false
set_option maxRecDepth 100000
set_option maxHeartbeats 4000000
set_option linter.all false
namespace C78
open PySem L2 My M78
abbrev sBegun : Stmt := top 36
def row0 : Row := ⟨0, false, false, 0⟩
def Rows0 (m : Addr) (H : Hp) (vs : List V) : Prop := ∀ v ∈ vs, ∃ R, v = .ref R ∧ R ≠ m ∧ H R = some (.tup (rowV row0))
theorem Rows0.all {m : Addr} {H : Hp} : ∀ {vs : List V}, Rows0 m H vs → AtAll m H vs ((List.replicate vs.length row0).map rowD)
  | [], _ => .nil
  | v :: vs, h => by
    obtain ⟨R, rfl, n, e⟩ := h v (List.mem_cons_self ..)
    exact .cons (row_at n e) (Rows0.all fun u hu => h u (List.mem_cons_of_mem _ hu))
section
variable {P : Program} {w : World} {K : PySem.W.Frag} {mg : Str → Option Value} {base : Heap}
abbrev nBegun : List Str := ["_law_scripts_here", "_law_one_here"]
theorem scBegun : FnScope nBegun ["_law_scripts_here"] (defScope sBegun) := ⟨rfl, rfl, rfl, by decide +kernel, rfl, by decide +kernel, by decide +kernel⟩
def spBegun : Sp := fun vs H Q _ => ∃ (m A : Addr) (o : HO) (ss : List (List Wd)), H m = some o ∧ vs = [.ref A] ∧ At m H (.ref A) (scD ss) ∧ ss.length ≤ 1000 ∧
  ∀ (q : Addr) (H' : Hp), H q = none → Same H H' → At m H' (.ref q) (stD (List.replicate ss.length row0)) → Q (.ref q) H'
theorem pr_begun (D : Df K mg "_law_begun" sBegun ["_law_scripts_here"]) (T : Ty mg) : Pr P w K mg base 1 "_law_begun" ["_law_scripts_here"] spBegun := by
  refine D.pr scBegun (fun vs H Q E h => ?_) (fun f cdv A outer s H vs Q E hr h => ?_)
  · obtain ⟨m, A, o, ss, hm, rfl, _⟩ := h
    rfl
  · obtain ⟨m, A, o, ss, hm, rfl, hA, hle, k⟩ := h
    have nd := scBegun.nd
    refine ⟨_, (pss_one (ps_ret (pe_callTy call_tuple_of (by rfl) T.tuple (by decide +kernel) (pa_cons (pe_lc (own := [("_law_one_here", 1)]) (g := gName 1) (tt := tYes) (by rfl) nd (pi_tup (pv 0))
  (blkOk_by (own := [("_law_one_here", 1)]) (N := nBegun) (sc := defScope sBegun) (by decide +kernel))
  (fun _ _ _ _ _ => pg_name (i := 1) nd rfl (Or.inl rfl) (Or.inr rfl)) (fun _ _ _ _ _ => pts_nil)
  (fun _ _ _ _ _ => (pe_tup (pa_cons pe_int (pa_cons pe_bl (pa_cons pe_bl (pa_cons pe_int pa_nil))))))) pa_nil)))), ?_⟩
    obtain ⟨_, ua, ea, nA, hA1, aA⟩ := at_tup hA
    cases ea
    have lua : ua.length = ss.length := by
      rw [aA.length, List.length_map]
    refine ⟨_, rfl, _, rfl, ⟨_, SqT.of hA1⟩, fun Dl hD => ?_⟩
    refine lc_it (walk_tup (xs := ua)) (fun i H2 => Same H H2 ∧ ∃ vs, H2 Dl = some (.lst vs) ∧ vs.length = i ∧ Rows0 m H2 vs) ?_ ?_ ?_ ?_
    · exact ⟨same_new hD, _, upd_same, rfl, fun v hv => nomatch hv⟩
    · exact fun i H2 _ q => SqT.of (q.1 _ _ hA1)
    · rintro i y H2 H3 hi ⟨sm, vs, hl, lv, av⟩ ⟨rfl, er⟩
      refine ⟨rfl, ?_⟩
      refine ⟨(by show 4 ≤ sizeLine; decide), fun R hR => ?_⟩
      have nD : Dl ≠ R := ne_of_none hl hR
      have nR : R ≠ m := fun z => by
        rw [z, sm _ _ hm] at hR
        cases hR
      have nDm : Dl ≠ m := fun z => by
        rw [z, hm] at hD
        cases hD
      refine ⟨vs, (by rw [upd_ne nD]; exact hl), small6 (by omega), ?_, vs ++ [.ref R], upd_same, by rw [List.length_append, lv]; rfl, ?_⟩
      · intro b u e
        rw [upd_ne (ne_of_none e hD)]
        exact same_new hR _ _ (sm _ _ e)
      · intro v hv
        rcases List.mem_append.mp hv with h | h
        · obtain ⟨R', rfl, n', e'⟩ := av v h
          have nn : R' ≠ Dl := ne_of e' hl (by intro z; cases z)
          exact ⟨R', rfl, n', by rw [upd_ne nn]; exact same_new hR _ _ e'⟩
        · obtain rfl := List.mem_singleton.mp h
          exact ⟨R, rfl, nR, by rw [upd_ne (Ne.symm nD)]; exact upd_same⟩
    · rintro H2 ⟨s2, vs, hl, lv, av⟩
      have av := av.all
      rw [lv, lua] at av
      refine ⟨_, _, rfl, .inl ⟨SqL.of hl, fun q hq => ?_⟩⟩
      have s3 := same_new (o := .tup vs) hq
      refine k q _ (Same.free s2 hq) (Same.tr s2 s3) (.tup (fun z => by rw [z, s2 _ _ hm] at hq; cases hq) upd_same (av.mono (Same.but (m := m) s3)))
end
end C78

set_option Elab.async false
set_option maxRecDepth 100000
set_option maxHeartbeats 4000000
set_option linter.all false
/-! Data apart from two objects; a list of data under construction. -/
namespace My
open PySem PySem.Spec PyProof.Rows L2
/-- all but two objects stay -/
def But2 (m c : Addr) (H H' : Hp) : Prop := ∀ b o, H b = some o → b ≠ m → b ≠ c → H' b = some o
mutual
theorem At.but2 {m c : Addr} {H H' : Hp} (b : But2 m c H H') : ∀ {v : V} {d : PyData}, At m H v d → At c H v d → At m H' v d
  | _, _, .non, _ => .non
  | _, _, .bl k, _ => .bl k
  | _, _, .int i, _ => .int i
  | _, _, .str x, _ => .str x
  | _, _, .lst n h q, .lst n' h' q' => by
    rw [h] at h'
    cases h'
    exact .lst n (b _ _ h n n') (AtAll.but2 b q q')
  | _, _, .tup n h q, .tup n' h' q' => by
    rw [h] at h'
    cases h'
    exact .tup n (b _ _ h n n') (AtAll.but2 b q q')
theorem AtAll.but2 {m c : Addr} {H H' : Hp} (b : But2 m c H H') : ∀ {vs : List V} {ds : List PyData}, AtAll m H vs ds → AtAll c H vs ds → AtAll m H' vs ds
  | _, _, .nil, _ => .nil
  | _, _, .cons h q, .cons h' q' => .cons (At.but2 b h h') (AtAll.but2 b q q')
end
mutual
theorem At.fresh {m c : Addr} {H : Hp} (hc : H c = none) : ∀ {v : V} {d : PyData}, At m H v d → At c H v d
  | _, _, .non => .non
  | _, _, .bl k => .bl k
  | _, _, .int i => .int i
  | _, _, .str x => .str x
  | _, _, .lst n h q => .lst (ne_of_none h hc) h (AtAll.fresh hc q)
  | _, _, .tup n h q => .tup (ne_of_none h hc) h (AtAll.fresh hc q)
theorem AtAll.fresh {m c : Addr} {H : Hp} (hc : H c = none) : ∀ {vs : List V} {ds : List PyData}, AtAll m H vs ds → AtAll c H vs ds
  | _, _, .nil => .nil
  | _, _, .cons h q => .cons (At.fresh hc h) (AtAll.fresh hc q)
end
theorem But2.swap {m c : Addr} {H H' : Hp} (b : But2 m c H H') : But2 c m H H' := fun x o e n1 n2 => b x o e n2 n1
theorem But2.ofM {m c : Addr} {H H' : Hp} (b : But m H H') : But2 m c H H' := fun x o e n1 _ => b x o e n1
theorem But2.upd {m c : Addr} {H : Hp} {o : HO} : But2 m c H (upd H c o) := fun x u e _ n => by
  rw [upd_ne n]
  exact e
theorem Same.new {H : Hp} {p : Addr} {o : HO} (h : H p = none) : Same H (upd H p o) := fun b u e => by
  rw [upd_ne (ne_of_none e h)]
  exact e
/-- at c a list of the values vs is being made, the data ds, apart from m and from itself -/
def Bld (m c : Addr) (H : Hp) (vs : List V) (ds : List PyData) : Prop := c ≠ m ∧ H c = some (.lst vs) ∧ AtAll m H vs ds ∧ AtAll c H vs ds
theorem Bld.start {m c : Addr} {H : Hp} {o : HO} (hm : H m = some o) (hc : H c = none) : Bld m c (upd H c (.lst [])) [] [] :=
  ⟨fun z => (by rw [z, hm] at hc; cases hc), upd_same, .nil, .nil⟩
theorem Bld.but {m c : Addr} {H H' : Hp} {vs : List V} {ds : List PyData} (h : Bld m c H vs ds) (b : But m H H') : Bld m c H' vs ds :=
  ⟨h.1, b _ _ h.2.1 h.1, h.2.2.1.mono b, h.2.2.2.but2 (But2.ofM b).swap h.2.2.1⟩
theorem Bld.same {m c : Addr} {H H' : Hp} {vs : List V} {ds : List PyData} (h : Bld m c H vs ds) (s : Same H H') : Bld m c H' vs ds := h.but (Same.but s)
theorem Bld.push {m c : Addr} {H : Hp} {vs : List V} {ds : List PyData} {v : V} {d : PyData} (h : Bld m c H vs ds) (a : At m H v d) (b : At c H v d) : Bld m c (upd H c (.lst (vs ++ [v]))) (vs ++ [v]) (ds ++ [d]) :=
  ⟨h.1, upd_same, (h.2.2.1.append a).but2 But2.upd (h.2.2.2.append b), (h.2.2.2.append b).but2 (fun x u e n1 _ => by rw [upd_ne n1]; exact e) (h.2.2.1.append a)⟩
theorem Bld.len {m c : Addr} {H : Hp} {vs : List V} {ds : List PyData} (h : Bld m c H vs ds) : vs.length = ds.length := h.2.2.1.length
/-- the list itself as data -/
theorem Bld.at {m c : Addr} {H : Hp} {vs : List V} {ds : List PyData} (h : Bld m c H vs ds) : At m H (.ref c) (.list ds) := .lst h.1 h.2.1 h.2.2.1
theorem Bld.tup {m c p : Addr} {H : Hp} {vs : List V} {ds : List PyData} {o : HO} (h : Bld m c H vs ds) (hm : H m = some o) (hp : H p = none) : At m (upd H p (.tup vs)) (.ref p) (.tuple ds) :=
  .tup (fun z => by rw [z, hm] at hp; cases hp) upd_same (h.2.2.1.mono (Same.but (Same.new hp)))
/-- a list or a tuple of these data -/
def Sq2 (d : PyData) (ds : List PyData) : Prop := d = .list ds ∨ d = .tuple ds
theorem Sq2.at {m : Addr} {H : Hp} {v : V} {d : PyData} {ds : List PyData} (s : Sq2 d ds) (h : At m H v d) : ∃ a vs, v = .ref a ∧ a ≠ m ∧ Sq H a vs ∧ AtAll m H vs ds := by
  rcases s with rfl | rfl
  · cases h with
    | lst n e q => exact ⟨_, _, rfl, n, .inl e, q⟩
  · cases h with
    | tup n e q => exact ⟨_, _, rfl, n, .inr e, q⟩
theorem Sq.sqLT {K : PySem.W.Frag} {H : Hp} {a : Addr} {vs : List V} (h : Sq H a vs) : SqL K H a vs ∨ SqT K H a vs := h.elim (fun h => .inl (SqL.of h)) fun h => .inr (SqT.of h)
def rTupOf (K : PySem.W.Frag) : List V → Hp → VK → Prop := fun xs H Q => ∃ p ys, xs = [.ref p] ∧ ((SqL K H p ys ∧ ∀ l, H l = none → Q (.ref l) (upd H l (.tup ys))) ∨ (SqT K H p ys ∧ Q (.ref p) H))
/-- tuple(x) of a list or a tuple of data -/
theorem tuple_any {K : PySem.W.Frag} {m a : Addr} {H : Hp} {vs : List V} {ds : List PyData} {o : HO} {Q : VK} (hm : H m = some o) (na : a ≠ m) (h : Sq H a vs) (q : AtAll m H vs ds)
    (k : ∀ (p : Addr) (H' : Hp), Same H H' → (p = a ∨ H p = none) → At m H' (.ref p) (.tuple ds) → Q (.ref p) H') : rTupOf K [.ref a] H Q := by
  rcases h with h | h
  · refine ⟨_, _, rfl, .inl ⟨SqL.of h, fun p hp => ?_⟩⟩
    exact k p _ (Same.new hp) (.inr hp) (.tup (fun z => by rw [z, hm] at hp; cases hp) upd_same (q.mono (Same.but (Same.new hp))))
  · exact ⟨_, _, rfl, .inr ⟨SqT.of h, k a H (fun _ _ e => e) (.inl rfl) (.tup na h q)⟩⟩
end My

set_option Elab.async false
set_option maxRecDepth 100000
set_option maxHeartbeats 4000000
set_option linter.all false
namespace C78
open PySem L2 My M78

def scE (sc : List Wd) : List PyData := sc.map fun v => .str (wS v)
/-- scripts, each a list or a tuple, all in a list or a tuple -/
def ScIn (ss : List (List Wd)) (d : PyData) : Prop := ∃ ds, Sq2 d ds ∧ Paired (fun sc e => Sq2 e (scE sc)) ss ds
def okScr (sc : List Wd) : Prop := sc.length ≤ 8 ∧ ∀ n v, sc[n]? = some v → okW v (flg sc n).1 (flg sc n).2 = true
theorem paired_get {α β : Type} {R : α → β → Prop} : ∀ {xs : List α} {ys : List β} {i : Nat} {y : β}, Paired R xs ys → ys[i]? = some y → ∃ x, xs[i]? = some x ∧ R x y
  | _, _, _, _, .nil, e => by simp at e
  | _, _, 0, _, .cons h _, e => by
    simp at e
    subst e
    exact ⟨_, rfl, h⟩
  | _, _, i + 1, y, .cons _ q, e => by
    obtain ⟨x, h1, h2⟩ := paired_get (i := i) (y := y) q (by simpa using e)
    exact ⟨x, by simpa using h1, h2⟩
theorem paired_len {α β : Type} {R : α → β → Prop} : ∀ {xs : List α} {ys : List β}, Paired R xs ys → xs.length = ys.length
  | _, _, .nil => rfl
  | _, _, .cons _ q => by rw [List.length_cons, List.length_cons, paired_len q]
theorem take_succ' {α : Type} {xs : List α} {i : Nat} {x : α} (h : xs[i]? = some x) : xs.take (i + 1) = xs.take i ++ [x] := by
  rw [List.take_add_one, h]
  rfl
abbrev sChecked : Stmt := top 15
abbrev nChecked : List Str := ["scripts", "script"]
theorem scChecked : FnScope nChecked ["scripts"] (defScope sChecked) := ⟨rfl, rfl, rfl, by decide +kernel, rfl, by decide +kernel, by decide +kernel⟩
abbrev sFirst : Stmt := top 16
abbrev nFirst : List Str := ["scripts", "script"]
theorem scFirst : FnScope nFirst ["scripts"] (defScope sFirst) := ⟨rfl, rfl, rfl, by decide +kernel, rfl, by decide +kernel, by decide +kernel⟩
section
variable {P : Program} {w : World} {K : PySem.W.Frag} {mg : Str → Option Value} {base : Heap}

def spChecked : Sp := fun vs H Q _ => ∃ (m A : Addr) (o : HO) (ss : List (List Wd)) (d : PyData), H m = some o ∧ vs = [.ref A] ∧ At m H (.ref A) d ∧ ScIn ss d ∧ 1 ≤ ss.length ∧ ss.length ≤ 4 ∧ (∀ sc ∈ ss, okScr sc) ∧
  ∀ (q : Addr) (H' : Hp), Same H H' → At m H' (.ref q) (scD ss) → Q (.ref q) H'
theorem pr_checked (D : Df K mg "checked" sChecked ["scripts"]) (T : Ty mg) (PL : Pr P w K mg base 1 "is_list" ["thing"] spIsList) (PI : Pr P w K mg base 2 "is_script" ["thing"] spIsScript) : Pr P w K mg base 3 "checked" ["scripts"] spChecked := by
  refine D.pr scChecked (fun vs H Q E h => ?_) (fun f cdv A outer s H vs Q E hr h => ?_)
  · obtain ⟨m, A, o, ss, d, hm, rfl, _⟩ := h
    rfl
  · obtain ⟨m, A, o, ss, d, hm, rfl, hA, ⟨ds, sq, pr⟩, l1, l4, hok, k⟩ := h
    have nd := scChecked.nd
    have hr1 := hr.mono (show 1 ≤ 2 by decide)
    refine ⟨_, (pss_cons (ps_if (PW.pt (pw_or (pt_not (pt_val (pe_callP PL hr1 (by rfl) (pa_cons (pv 0) pa_nil)))) (pw_or (pt_not (pt_chain op_le op_le pe_int (pe_callB call_len (by rfl) T.len PySem.boot_len (pa_cons (pv 0) pa_nil)) pe_int)) (pw_or1 (pt_not (pt_val (pe_callB (cr_all rfl) (by rfl) T.all (by decide +kernel) (pa_cons (pe_lc (own := [("script", 1)]) (g := gName 1) (tt := tYes) (by rfl) nd (pi_sq (pv 0))
  (blkOk_by (own := [("script", 1)]) (N := nChecked) (sc := defScope sChecked) (by decide +kernel))
  (fun _ _ _ _ _ => pg_name (i := 1) nd rfl (Or.inl rfl) (Or.inr rfl)) (fun _ _ _ _ _ => pts_nil)
  (fun _ _ _ _ _ => (pe_callP PI hr (by rfl) (pa_cons (pv 1) pa_nil)))) pa_nil))))))))
        (pss_one ps_never)
        pss_nil)
      (pss_one (ps_ret (pe_callTy call_tuple_of (by rfl) T.tuple (by decide +kernel) (pa_cons (pe_lc (own := [("script", 1)]) (g := gName 1) (tt := tYes) (te := tCB (rTupOf K) (tCons (tVar 1) tNil)) (by rfl) nd (pi_sq (pv 0))
  (blkOk_by (own := [("script", 1)]) (N := nChecked) (sc := defScope sChecked) (by decide +kernel))
  (fun _ _ _ _ _ => pg_name (i := 1) nd rfl (Or.inl rfl) (Or.inr rfl)) (fun _ _ _ _ _ => pts_nil)
  (fun _ _ _ _ _ => (pe_callTy call_tuple_of (by rfl) T.tuple (by decide +kernel) (pa_cons (pv 1) pa_nil)))) pa_nil))))), ?_⟩
    obtain ⟨_, ua, ea, nA, hA1, aA⟩ := sq.at hA
    cases ea
    have lds := paired_len pr
    have lua : ua.length = ss.length := by
      rw [aA.length, lds]
    have hlt : lt2 d = true := by
      rcases sq with rfl | rfl <;> rfl
    refine ⟨_, rfl, m, o, _, d, hm, rfl, hA, fun H1 s1 => ?_⟩
    rw [hlt]
    refine ⟨_, rfl, iteF ?_⟩
    refine ⟨_, rfl, _, _, rfl, (hA1.same s1).len, _, _, rfl, rfl, _, rfl, ?_⟩
    rw [decide_eq_true (show (1 : Int) ≤ (ua.length : Int) by omega)]
    refine iteT ⟨_, _, rfl, rfl, _, rfl, ?_⟩
    rw [decide_eq_true (show (ua.length : Int) ≤ 4 by omega)]
    refine iteF ?_
    refine isq (a := A) (us := ua) (fun Q q => ⟨_, rfl, q⟩) (hA1.same s1) (fun J G W hG => fun Dl hD => ?_)
    refine lc_it W (fun i H2 => Same H1 H2 ∧ H2 Dl = some (.lst ((List.replicate i true).map V.bl))) ?_ ?_ ?_ ?_
    · exact ⟨same_new hD, upd_same⟩
    · exact fun i H2 _ q => hG _ (fun _ e => q.1 _ _ e)
    · rintro i y H9 H2 hi ⟨sm, hl⟩ ⟨rfl, er⟩
      have s2 : Same H H2 := Same.tr s1 sm
      obtain ⟨de, e1, ae⟩ := aA.get er
      obtain ⟨sc, e2, sqe⟩ := paired_get pr e1
      obtain ⟨ap, us, rfl, nap, hap, aap⟩ := sqe.at ae
      have hokc := hok sc (List.mem_of_getElem? e2)
      refine ⟨rfl, ?_⟩
      refine ⟨_, rfl, m, ap, o, sc, de, s2 _ _ hm, rfl, ae.mono (Same.but s2), sqe, hokc.1, hokc.2, fun H4 s4 => ?_⟩
      refine ⟨_, s4 _ _ hl, ?_, ?_, ?_⟩
      · rw [List.length_map, List.length_replicate]
        exact small6 (by omega)
      · intro b u e
        rw [upd_ne (ne_of_none e hD)]
        exact s4 _ _ (sm _ _ e)
      · rw [upd_same, List.replicate_succ', List.map_append]
        rfl
    · rintro H2 ⟨s2, hl⟩
      refine ⟨_, _, rfl, SqL.of hl, ?_⟩
      rw [show (List.replicate ua.length true).all id = true from by simp]
      refine ⟨_, rfl, iteF ?_⟩
      have s3 : Same H H2 := Same.tr s1 s2
      refine isq (a := A) (us := ua) (fun Q q => ⟨_, rfl, q⟩) (hA1.same s3) (fun J G W hG => fun Dm hDm => ?_)
      have hm2 := s3 _ _ hm
      refine lc_it W (fun i H4 => Same H2 H4 ∧ ∃ vs, Bld m Dm H4 vs ((ss.take i).map fun sc => .tuple (scE sc))) ?_ ?_ ?_ ?_
      · exact ⟨same_new hDm, [], Bld.start hm2 hDm⟩
      · exact fun i H4 _ q => hG _ (fun _ e => q.1 _ _ e)
      · rintro i y H9 H4 hi ⟨sm, vs, bl⟩ ⟨rfl, er⟩
        have s4 : Same H H4 := Same.tr s3 sm
        obtain ⟨de, e1, ae⟩ := aA.get er
        obtain ⟨sc, e2, sqe⟩ := paired_get pr e1
        obtain ⟨ap, us, rfl, nap, hap, aap⟩ := sqe.at ae
        have neD : ap ≠ Dm := by
          rcases hap with h | h
          · exact ne_of_none (s3 _ _ h) hDm
          · exact ne_of_none (s3 _ _ h) hDm
        have aap4 := aap.mono (Same.but (m := m) s4)
        have aapD : AtAll Dm H4 us (scE sc) := (aap.mono (Same.but (m := m) s3)).fresh hDm |>.mono (Same.but sm)
        refine ⟨rfl, ?_⟩
        refine ⟨_, rfl, ?_⟩
        dsimp only [tNil]
        refine tuple_any (m := m) (ds := scE sc) (s4 _ _ hm) nap (hap.same s4) aap4 (fun p H6 s6 hp ap6 => ?_)
        have bl6 := bl.same s6
        have np : p ≠ Dm := by
          rcases hp with rfl | hp
          · exact neD
          · exact fun z => by
              rw [z, bl.2.1] at hp
              cases hp
        have apD : At Dm H6 (.ref p) (.tuple (scE sc)) := by
          cases ap6 with
          | tup n e q =>
            refine .tup np e ?_
            have : ∀ {vs : List V} {sc : List Wd}, AtAll m H6 vs (scE sc) → AtAll Dm H6 vs (scE sc) := by
              intro vs sc
              induction sc generalizing vs with
              | nil =>
                intro h
                cases h
                exact .nil
              | cons a r ih =>
                intro h
                cases h with
                | cons h1 h2 =>
                  cases h1
                  exact .cons (.str _) (ih h2)
            exact this q
        refine ⟨vs, bl6.2.1, ?_, ?_, vs ++ [.ref p], ?_⟩
        · rw [bl.len, List.length_map, List.length_take]
          exact small6 (by omega)
        · intro b u e
          rw [upd_ne (ne_of_none e hDm)]
          exact s6 _ _ (sm _ _ e)
        · rw [take_succ' e2, List.map_append]
          exact bl6.push ap6 apD
      · rintro H4 ⟨s4, vs, bl⟩
        have s5 : Same H H4 := Same.tr s3 s4
        rw [lua, List.take_length] at bl
        refine ⟨_, _, rfl, .inl ⟨SqL.of bl.2.1, fun q hq => ?_⟩⟩
        exact k q _ (Same.tr s5 (same_new hq)) (bl.tup (s5 _ _ hm) hq)
/-- the state at the beginning -/
def spFirst : Sp := fun vs H Q _ => ∃ (m A : Addr) (o : HO) (ss : List (List Wd)) (d : PyData), H m = some o ∧ vs = [.ref A] ∧ At m H (.ref A) d ∧ ScIn ss d ∧ 1 ≤ ss.length ∧ ss.length ≤ 4 ∧ (∀ sc ∈ ss, okScr sc) ∧
  ∀ (q : Addr) (H' : Hp), Same H H' → At m H' (.ref q) (stD (List.replicate ss.length row0)) → Q (.ref q) H'
theorem pr_first (D : Df K mg "first_state" sFirst ["scripts"]) (T : Ty mg) (G : Tk K mg) (PC : Pr P w K mg base 3 "checked" ["scripts"] spChecked) : Pr P w K mg base 4 "first_state" ["scripts"] spFirst := by
  refine D.pr scFirst (fun vs H Q E h => ?_) (fun f cdv A outer s H vs Q E hr h => ?_)
  · obtain ⟨m, A, o, ss, d, hm, rfl, _⟩ := h
    rfl
  · obtain ⟨m, A, o, ss, d, hm, rfl, hA, hin, l1, l4, hok, k⟩ := h
    have nd := scFirst.nd
    obtain ⟨_, g0⟩ := G.l0
    refine ⟨_, (pss_one (ps_ret (pe_callTy call_tuple_of (by rfl) T.tuple (by decide +kernel) (pa_cons (pe_lc (own := [("script", 1)]) (g := gName 1) (tt := tYes) (by rfl) nd (pi_tup (pe_callP PC hr (by rfl) (pa_cons (pv 0) pa_nil)))
  (blkOk_by (own := [("script", 1)]) (N := nFirst) (sc := defScope sFirst) (by decide +kernel))
  (fun _ _ _ _ _ => pg_name (i := 1) nd rfl (Or.inl rfl) (Or.inr rfl)) (fun _ _ _ _ _ => pts_nil)
  (fun _ _ _ _ _ => (pe_tup (pa_cons pe_int (pa_cons pe_bl (pa_cons pe_bl (pa_cons (pe_gI rfl g0) pa_nil))))))) pa_nil)))), ?_⟩
    refine ⟨_, rfl, m, A, o, ss, d, hm, rfl, hA, hin, l1, l4, hok, fun q H0 s0 aq => ?_⟩
    obtain ⟨_, ua, ea, nA, hA1, aA⟩ := at_tup aq
    cases ea
    have hm0 := s0 _ _ hm
    have lua : ua.length = ss.length := by
      rw [aA.length, List.length_map]
    refine ⟨_, rfl, ⟨_, SqT.of hA1⟩, fun Dl hD => ?_⟩
    refine lc_it (walk_tup (xs := ua)) (fun i H2 => Same H0 H2 ∧ ∃ vs, Bld m Dl H2 vs ((List.replicate i row0).map rowD)) ?_ ?_ ?_ ?_
    · exact ⟨same_new hD, [], Bld.start hm0 hD⟩
    · exact fun i H2 _ q => SqT.of (q.1 _ _ hA1)
    · rintro i y H2 H3 hi ⟨sm, vs, bl⟩ ⟨rfl, er⟩
      refine ⟨rfl, ?_⟩
      refine ⟨(by show 4 ≤ sizeLine; decide), fun R hR => ?_⟩
      have bl3 := bl.same (Same.new (o := .tup (rowV row0)) hR)
      have nR : R ≠ m := fun z => by
        rw [z, sm _ _ hm0] at hR
        cases hR
      have nD : R ≠ Dl := fun z => by
        rw [z, bl.2.1] at hR
        cases hR
      refine ⟨vs, bl3.2.1, ?_, ?_, vs ++ [.ref R], ?_⟩
      · rw [bl.len, List.length_map, List.length_replicate]
        exact small6 (by omega)
      · intro b u e
        rw [upd_ne (ne_of_none e hD)]
        exact same_new hR _ _ (sm _ _ e)
      · rw [List.replicate_succ', List.map_append]
        exact bl3.push (row_at nR upd_same) (row_at nD upd_same)
    · rintro H2 ⟨s2, vs, bl⟩
      rw [lua] at bl
      refine ⟨_, _, rfl, .inl ⟨SqL.of bl.2.1, fun q hq => ?_⟩⟩
      exact k q _ (Same.tr s0 (Same.tr s2 (same_new hq))) (bl.tup (s2 _ _ hm0) hq)
end
end C78

set_option Elab.async false
set_option maxRecDepth 100000
set_option maxHeartbeats 4000000
set_option linter.all false
namespace C78
open PySem L2 My M78
abbrev sLeft : Stmt := top 37
abbrev nLeft : List Str := ["_law_scripts_here", "_law_here", "_law_k"]
theorem scLeft : FnScope nLeft ["_law_scripts_here", "_law_here"] (defScope sLeft) := ⟨rfl, rfl, rfl, by decide +kernel, rfl, by decide +kernel, by decide +kernel⟩
section
variable {P : Program} {w : World} {K : PySem.W.Frag} {mg : Str → Option Value} {base : Heap}

/-- the scripts that have steps left -/
def spLeft : Sp := fun vs H Q _ => ∃ (m A B : Addr) (ss : List (List Wd)) (xs : List Row), vs = [.ref A, .ref B] ∧ At m H (.ref A) (scD ss) ∧ At m H (.ref B) (stD xs) ∧
  ss.length = xs.length ∧ xs.length ≤ 1000 ∧
  ∀ (q : Addr) (H' : Hp), H q = none → Same H H' → H' q = some (.lst ((waitL ss xs xs.length).map fun k : Nat => V.int (k : Int))) → Q (.ref q) H'
theorem pr_left (D : Df K mg "_law_left" sLeft ["_law_scripts_here", "_law_here"]) (T : Tx mg) (TR : mg "range" = none) : Pr P w K mg base 4 "_law_left" ["_law_scripts_here", "_law_here"] spLeft := by
  refine D.pr scLeft (fun vs H Q E h => ?_) (fun f cdv A outer s H vs Q E hr h => ?_)
  · obtain ⟨m, A, B, ss, xs, rfl, _⟩ := h
    rfl
  · obtain ⟨m, A, B, ss, xs, rfl, hA, hB, hle, hlen, k⟩ := h
    have nd := scLeft.nd
    refine ⟨_, (pss_one (ps_ret (pe_lc (own := [("_law_k", 2)]) (g := gName 2) (tt := tTest (tOp (rI0 fun i j => .bl (decide (i < j))) (tOp (rIxT K) (tOp (rIxT K) (tVar 1) (tVar 2)) (tC (.int 0))) (tCB (fun xs H Q => ∃ x n, xs = [x] ∧ LenV K x H n ∧ Q (.int n) H) (tCons (tOp (rIxT K) (tVar 0) (tVar 2)) tNil)))) (by rfl) nd (pi_range1 rfl TR (pa_cons (pe_callB call_len (by rfl) T.len PySem.boot_len (pa_cons (pv 0) pa_nil)) pa_nil))
  (blkOk_by (own := [("_law_k", 2)]) (N := nLeft) (sc := defScope sLeft) (by decide +kernel))
  (fun _ _ _ _ _ => pg_name (i := 2) nd rfl (Or.inl rfl) (Or.inr rfl)) (fun _ _ _ _ _ => pts_one (pt_cmpR op_lt (pe_ix ix_tup (pe_ix ix_tup (pv 1) (pv 2) (fun _ _ => rfl)) pe_int (fun _ _ => rfl)) (pe_callB call_len (by rfl) T.len PySem.boot_len (pa_cons (pe_ix ix_tup (pv 0) (pv 2) (fun _ _ => rfl)) pa_nil)) (nomark _)))
  (fun _ _ _ _ _ => (pv 2))))), ?_⟩
    obtain ⟨_, ua, ea, nA, hA1, aA⟩ := at_tup hA
    cases ea
    obtain ⟨_, ub, eb, nB, hB1, aB⟩ := at_tup hB
    cases eb
    have lub : ub.length = xs.length := by
      rw [aB.length, List.length_map]
    have lua : ua.length = xs.length := by
      rw [aA.length, List.length_map, hle]
    refine ⟨_, rfl, _, _, rfl, (Or.inr ⟨_, SqT.of hA1, rfl⟩), _, rfl, (by omega), (by omega), fun Dl hD => ?_⟩
    rw [show ((ua.length : Nat) : Int).toNat = xs.length by omega]
    refine lc_range (lo := 0) (n := xs.length) (fun i H2 => Same H H2 ∧ H2 Dl = some (.lst ((waitL ss xs i).map fun k : Nat => V.int (k : Int)))) ?_ ?_ ?_
    · exact ⟨same_new hD, upd_same⟩
    · rintro i H2 hi ⟨sm, hl⟩
      have hix : i < xs.length := hi
      have his : i < ss.length := by omega
      obtain ⟨vr, er, ar⟩ := all_get (i := i) (d := rowD xs[i]) aB (by rw [List.getElem?_map, List.getElem?_eq_getElem hix]; rfl)
      obtain ⟨R, rfl, nR, hR⟩ := row_of ar
      obtain ⟨vsc, es1, asc⟩ := all_get (i := i) (d := .tuple (ss[i].map fun v => .str (wS v))) aA (by rw [List.getElem?_map, List.getElem?_eq_getElem his]; rfl)
      obtain ⟨aS, us, rfl, nS, hS, aS2⟩ := at_tup asc
      have lus : us.length = ss[i].length := by
        rw [aS2.length, List.length_map]
      have hw : waitL ss xs (i + 1) = waitL ss xs i ++ (if xs[i].p < (ss[i].length : Int) then [i] else []) := by
        show waitL ss xs i ++ (match ss[i]?, xs[i]? with | some s, some x => (if x.p < (s.length : Int) then [i] else []) | _, _ => []) = _
        rw [List.getElem?_eq_getElem hix, List.getElem?_eq_getElem his]
      rw [show (0 : Int) + (i : Nat) = ((i : Nat) : Int) by omega]
      refine ⟨rfl, ?_⟩
      refine ⟨_, rfl, _, rfl, _, _, _, _, rfl, rfl, SqT.of (sm _ _ hB1), atI_nat er, ?_⟩
      refine ⟨_, _, _, _, rfl, rfl, SqT.of (sm _ _ hR), rfl, ?_⟩
      refine ⟨_, rfl, _, rfl, _, _, _, _, rfl, rfl, SqT.of (sm _ _ hA1), atI_nat es1, ?_⟩
      refine ⟨_, _, rfl, (Or.inr ⟨_, SqT.of (sm _ _ hS), rfl⟩), ?_⟩
      refine ⟨_, _, rfl, rfl, _, rfl, ?_⟩
      rw [lus]
      by_cases hij : xs[i].p < (ss[i].length : Int)
      · rw [decide_eq_true hij]
        refine iteT ⟨_, rfl, _, hl, ?_, ?_, ?_⟩
        · rw [List.length_map]
          have := waitL_len ss xs i
          exact small6 (by omega)
        · intro b u e
          rw [upd_ne (ne_of_none e hD)]
          exact sm _ _ e
        · rw [upd_same, hw, if_pos hij, List.map_append]
          rfl
      · rw [decide_eq_false hij]
        refine iteF ⟨sm, ?_⟩
        rw [hl, hw, if_neg hij, List.append_nil]
    · rintro H2 ⟨s2, hl⟩
      exact k _ _ hD s2 hl
end
end C78

set_option Elab.async false
set_option maxRecDepth 100000
set_option maxHeartbeats 4000000
set_option linter.all false
/-! Parts that give a known value and leave what stood as it was. -/
namespace My
open PySem PySem.Spec PyProof.Rows L2
/-- the expression gives v, what stood stands -/
def Gv (t : TE) (σ : L2.St) (H : Hp) (v : V) : Prop := ∀ Q : VK, (∀ H', Same H H' → Q v H') → t σ H Q
def Gt (t : TT) (σ : L2.St) (H : Hp) (b : Bool) : Prop := ∀ Q : Bool → Hp → Prop, (∀ H', Same H H' → Q b H') → t σ H Q
theorem Same.rfl' (H : Hp) : Same H H := fun _ _ e => e
theorem Same.tr' {H H1 H2 : Hp} (a : Same H H1) (b : Same H1 H2) : Same H H2 := fun x o e => b _ _ (a _ _ e)
theorem Gv.and {ta tb : TE} {σ : L2.St} {H : Hp} {a b : Bool} (h1 : Gv ta σ H (.bl a)) (h2 : ∀ H', Same H H' → Gv tb σ H' (.bl b)) : Gv (tAndV ta tb) σ H (.bl (a && b)) := fun Q k => h1 _ fun H1 s1 => ⟨a, rfl, by
  cases a
  · exact iteF (k _ s1)
  · exact iteT (h2 _ s1 _ fun H2 s2 => k _ (Same.tr' s1 s2))⟩
theorem Gv.or {ta tb : TE} {σ : L2.St} {H : Hp} {a b : Bool} (h1 : Gv ta σ H (.bl a)) (h2 : ∀ H', Same H H' → Gv tb σ H' (.bl b)) : Gv (tOrV ta tb) σ H (.bl (a || b)) := fun Q k => h1 _ fun H1 s1 => ⟨a, rfl, by
  cases a
  · exact iteF (h2 _ s1 _ fun H2 s2 => k _ (Same.tr' s1 s2))
  · exact iteT (k _ s1)⟩
theorem seq_asg_gv {te : TE} {g : TG} {r : TS} {D : Ends} {σ : L2.St} {H : Hp} {x : V} (h : Gv te σ H x) (k : ∀ H', Same H H' → g x σ H' (r D)) : tSeq (tAsg te g) r D σ H := h _ k
theorem asg_gv {te : TE} {g : TG} {D : Ends} {σ : L2.St} {H : Hp} {x : V} (h : Gv te σ H x) (k : ∀ H', Same H H' → g x σ H' D.nx) : tAsg te g D σ H := h _ k
theorem if_gt {c : TT} {t u : TS} {D : Ends} {σ : L2.St} {H : Hp} (b : Bool) (h : Gt c σ H b) (hT : b = true → ∀ H', Same H H' → t D σ H') (hF : b = false → ∀ H', Same H H' → u D σ H') : tIfS c t u D σ H := h _ fun H' s => (by
  cases b
  · exact iteF (hF rfl _ s)
  · exact iteT (hT rfl _ s))
theorem seq_if_gt {c : TT} {t u r : TS} {D : Ends} {σ : L2.St} {H : Hp} (b : Bool) (h : Gt c σ H b) (hT : b = true → ∀ H', Same H H' → t { D with nx := r D } σ H') (hF : b = false → ∀ H', Same H H' → u { D with nx := r D } σ H') : tSeq (tIfS c t u) r D σ H := if_gt b h hT hF
/-- a new tuple, a new list; the heap behind it by what stands in it -/
theorem new_tup {H : Hp} {xs : List V} {Q : VK} (hz : xs.length ≤ sizeLine) (k : ∀ p H', H p = none → Same H H' → H' p = some (.tup xs) → Q (.ref p) H') : xs.length ≤ sizeLine ∧ ∀ p, H p = none → Q (.ref p) (upd H p (.tup xs)) :=
  ⟨hz, fun p hp => k p _ hp (Same.new hp) upd_same⟩
theorem new_lst {H : Hp} {xs : List V} {Q : VK} (hz : xs.length ≤ sizeLine) (k : ∀ p H', H p = none → Same H H' → H' p = some (.lst xs) → Q (.ref p) H') : xs.length ≤ sizeLine ∧ ∀ p, H p = none → Q (.ref p) (upd H p (.lst xs)) :=
  ⟨hz, fun p hp => k p _ hp (Same.new hp) upd_same⟩
theorem Drw.same {H H' : Hp} {st c : Addr} {ns : List Int} (h : Drw H st c ns) (s : Same H H') : Drw H' st c ns := by
  obtain ⟨hc, n, v, b, h0, hs⟩ := h
  exact ⟨s _ _ hc, n, v, b, h0, s _ _ hs⟩
theorem Drw.nst {H : Hp} {st c p : Addr} {ns : List Int} (h : Drw H st c ns) (hp : H p = none) : p ≠ st := fun z => by
  obtain ⟨_, _, _, _, _, hs⟩ := h
  rw [z, hs] at hp
  cases hp
theorem Drw.at {H : Hp} {st c : Addr} {ns : List Int} (h : Drw H st c ns) : ∃ o, H st = some o := by
  obtain ⟨_, _, _, _, _, hs⟩ := h
  exact ⟨_, hs⟩
theorem But.tr' {p : Addr} {H H1 H2 : Hp} (a : But p H H1) (s : Same H1 H2) : But p H H2 := fun x o e n => s x o (a x o e n)
/-- what is new now was new before -/
theorem But.free {p q : Addr} {H H1 : Hp} (a : But p H H1) (n : q ≠ p) (h : H1 q = none) : H q = none := by
  cases e : H q with
  | none => rfl
  | some o =>
    rw [a q o e n] at h
    cases h
end My

set_option Elab.async false
set_option maxRecDepth 100000
set_option maxHeartbeats 4000000
set_option linter.all false
namespace C78
open PySem L2 My M78
abbrev sBehind : Stmt := top 34
abbrev nBehind : List Str := ["_law_word", "_law_opened", "_law_reads", "_law_lock", "_law_least"]
theorem scBehind : FnScope nBehind ["_law_word", "_law_opened", "_law_reads", "_law_lock"] (defScope sBehind) := ⟨rfl, rfl, rfl, by decide +kernel, rfl, by decide +kernel, by decide +kernel⟩

def bO (v : Wd) (o : Bool) : Bool := !isEn v && (o || isOp v)
def bR (v : Wd) (r : Bool) : Bool := !decide (v = .sto) && (r || decide (v = .sta))
def leastM : Wd → Int
  | .rea => 1 | .sta => 1 | .wri => 2 | .imm => 2 | .exc => 4 | _ => 0
def bL (v : Wd) (o r : Bool) (l : Int) : Int := if bO v o = true then max l (leastM v) else restL (bR v r)
def leastK : List (Key × V) := [(Sum.inr (Str.ofString "read"), .int 1), (Sum.inr (Str.ofString "start"), .int 1), (Sum.inr (Str.ofString "write"), .int 2), (Sum.inr (Str.ofString "immediate"), .int 2), (Sum.inr (Str.ofString "exclusive"), .int 4)]
theorem least_get (v : Wd) : (valV (mergeK [] leastK) (Sum.inr (wS v))).getD (.int 0) = .int (leastM v) := by cases v <;> decide +kernel
theorem in_op3 (v : Wd) : inV (.str (wS v)) [.str (Str.ofString "begin"), .str (Str.ofString "immediate"), .str (Str.ofString "exclusive")] = isOp v := in_op v
section
variable {P : Program} {w : World} {K : PySem.W.Frag} {mg : Str → Option Value} {base : Heap}

def spBehind : Sp := fun vs H Q _ => ∃ (v : Wd) (o r : Bool) (l : Int), vs = [.str (wS v), .bl o, .bl r, .int l] ∧
  ∀ (p : Addr) (H' : Hp), H p = none → Same H H' → H' p = some (.tup [.bl (bO v o), .bl (bR v r), .int (bL v o r l)]) → Q (.ref p) H'
theorem pr_behind (D : Df K mg "_law_behind" sBehind ["_law_word", "_law_opened", "_law_reads", "_law_lock"]) (T : Tx mg) (TM : mg "max" = none) : Pr P w K mg base 1 "_law_behind" ["_law_word", "_law_opened", "_law_reads", "_law_lock"] spBehind := by
  refine D.pr scBehind (fun vs H Q E h => ?_) (fun f cdv A outer s H vs Q E hr h => ?_)
  · obtain ⟨v, o, r, l, rfl, _⟩ := h
    rfl
  · obtain ⟨v, o, r, l, rfl, k⟩ := h
    have nd := scBehind.nd
    refine ⟨_, (pss_cons (ps_asg (pe_and (pe_cmpR op_notIn_seq (pv 0) (pe_tup (pa_cons pe_str (pa_cons pe_str pa_nil))) (by rfl)) (pe_one (pe_or (pv 1) (pe_one (pe_cmpR op_in_seq (pv 0) (pe_tup (pa_cons pe_str (pa_cons pe_str (pa_cons pe_str pa_nil)))) (by rfl)))))) (pg_name (i := 1) nd rfl (Or.inl rfl)))
      (pss_cons (ps_asg (pe_and (pe_cmpR op_ne (pv 0) pe_str (nomark _)) (pe_one (pe_or (pv 2) (pe_one (pe_cmpR op_eq (pv 0) pe_str (nomark _)))))) (pg_name (i := 2) nd rfl (Or.inl rfl)))
      (pss_cons (ps_if (pt_not (pt_val (pv 1)))
        (pss_one (ps_ret (pe_tup (pa_cons (pv 1) (pa_cons (pv 2) (pa_cons (pe_callTy call_int1 (by rfl) T.int (by decide +kernel) (pa_cons (pv 2) pa_nil)) pa_nil))))))
        pss_nil)
      (pss_cons (ps_asg (pe_disp (pps_cons pe_str pe_int (pps_cons pe_str pe_int (pps_cons pe_str pe_int (pps_cons pe_str pe_int (pps_cons pe_str pe_int pps_nil))))) (by rfl) (by rfl) (fun z => by cases z) (by decide)) (pg_name (i := 4) nd rfl (Or.inl rfl)))
      (pss_one (ps_ret (pe_tup (pa_cons (pv 1) (pa_cons (pv 2) (pa_cons (pe_callB (call_max2 rfl) (by rfl) TM (by decide +kernel) (pa_cons (pv 3) (pa_cons (pe_dget2 (hu_of hr) (pv 4) (pv 0) pe_int ⟨rfl, rfl, rfl, rfl⟩) pa_nil))) pa_nil)))))))))), ?_⟩
    refine seq_asg_gv (x := .bl (bO v o)) (Gv.and (fun Q' kk => ?_) (fun H1 s1 => Gv.or (fun Q' kk => ⟨_, rfl, kk _ (Same.rfl' _)⟩) (fun H2 s2 Q' kk => ?_))) ?_
    · refine ⟨_, rfl, (by show 2 ≤ sizeLine; decide), fun tp htp => ?_⟩
      refine ⟨_, _, rfl, .inr (SqT.of upd_same), rfl, rfl, ?_⟩
      rw [in_en v]
      exact kk _ (same_new htp)
    · refine ⟨_, rfl, (by show 3 ≤ sizeLine; decide), fun tp htp => ?_⟩
      refine ⟨_, _, rfl, .inr (SqT.of upd_same), rfl, rfl, ?_⟩
      rw [in_op v]
      exact kk _ (same_new htp)
    intro H1 s1
    refine seq_asg_gv (x := .bl (bR v r)) (Gv.and (fun Q' kk => ?_) (fun H1 s1 => Gv.or (fun Q' kk => ⟨_, rfl, kk _ (Same.rfl' _)⟩) (fun H2 s2 Q' kk => ?_))) ?_
    · refine ⟨_, rfl, rfl, ?_⟩
      rw [show decide (V.str (wS v) = V.str (Str.ofString "stop")) = decide (v = .sto) from eqW v .sto]
      exact kk _ (Same.rfl' _)
    · refine ⟨_, rfl, rfl, ?_⟩
      rw [show decide (V.str (wS v) = V.str (Str.ofString "start")) = decide (v = .sta) from eqW v .sta]
      exact kk _ (Same.rfl' _)
    intro H2 s2
    have s3 : Same H H2 := Same.tr s1 s2
    refine seq_if_tv (!bO v o) (fun K' kk => ⟨_, rfl, _, rfl, kk⟩) (fun hb => ?_) (fun hb => ?_)
    · refine ⟨_, rfl, _, rfl, _, rfl, .inr ⟨_, rfl, (by show 3 ≤ sizeLine; decide), fun p hp => ?_⟩⟩
      refine k p _ (Same.free s3 hp) (Same.tr s3 (same_new hp)) ?_
      rw [upd_same]
      have hb2 : bO v o = false := by simpa using hb
      unfold bL
      rw [hb2]
      rfl
    · dsimp only [tNext]
      have hb2 : bO v o = true := by simpa using hb
      intro dp hdp
      refine ⟨upd_same, leastK, rfl, (by show 5 ≤ 15; decide), ?_⟩
      have s4 : Same H2 (upd (upd H2 dp (.dK [])) dp (.dK (mergeK [] leastK))) := fun b u e => by
        rw [upd_ne (ne_of_none e hdp), upd_ne (ne_of_none e hdp)]
        exact e
      refine ⟨_, rfl, _, rfl, _, rfl, _, rfl, dp, rfl, .inl ⟨_, Rd.of upd_same⟩, _, rfl, _, DGet.k (k := Sum.inr (wS v)) upd_same, ?_⟩
      rw [least_get v]
      refine ⟨_, _, rfl, (by show 3 ≤ sizeLine; decide), fun p hp => ?_⟩
      have s5 := Same.tr s3 s4
      refine k p _ (Same.free s5 hp) (Same.tr s5 (same_new hp)) ?_
      rw [upd_same, max2]
      unfold bL
      rw [if_pos hb2]
end
end C78

set_option Elab.async false
set_option maxRecDepth 100000
set_option maxHeartbeats 4000000
set_option linter.all false
namespace C78
open PySem L2 My M78
abbrev sAfter : Stmt := top 35
abbrev nAfter : List Str := ["_law_scripts_here", "_law_here", "_law_at", "_law_place", "_law_opened", "_law_reads", "_law_lock", "_law_word", "_law_top", "_law_held", "_law_k", "_law_row"]
theorem scAfter : FnScope nAfter ["_law_scripts_here", "_law_here", "_law_at"] (defScope sAfter) := ⟨rfl, rfl, rfl, by decide +kernel, rfl, by decide +kernel, by decide +kernel⟩

def afterM (v : Wd) (x : Row) (t : Int) : Row × Bool :=
  if refM v x.o x.l t = true then (⟨x.p, x.o, x.r, if v = .com then max x.l 3 else x.l⟩, true) else (⟨x.p + 1, bO v x.o, bR v x.r, bL v x.o x.r x.l⟩, false)
theorem foldl_max (l : List Int) : ∀ a, a ≤ l.foldl max a ∧ (∀ n ∈ l, n ≤ l.foldl max a) ∧ (l.foldl max a = a ∨ l.foldl max a ∈ l) := by
  induction l with
  | nil => exact fun a => ⟨Int.le_refl _, fun n hn => (by cases hn), .inl rfl⟩
  | cons b r ih =>
    intro a
    obtain ⟨h1, h2, h3⟩ := ih (max a b)
    rw [List.foldl_cons]
    refine ⟨by omega, fun n hn => ?_, ?_⟩
    · rcases List.mem_cons.mp hn with rfl | h
      · omega
      · exact h2 n h
    · rcases h3 with h3 | h3
      · rw [h3]
        rcases Int.le_total a b with h | h
        · exact .inr (List.mem_cons.mpr (.inl (by omega)))
        · exact .inl (by omega)
      · exact .inr (List.mem_cons_of_mem _ h3)
theorem top_is {l : List Int} {m : Int} (h0 : ∀ n ∈ l, 0 ≤ n) (h1 : m ∈ (0 : Int) :: l) (h2 : ∀ y ∈ (0 : Int) :: l, y ≤ m) : m = topOf 0 l := by
  cases l with
  | nil => exact List.mem_singleton.mp h1
  | cons a r =>
    obtain ⟨q1, q2, q3⟩ := foldl_max r a
    show m = r.foldl max a
    have e1 : m ≤ r.foldl max a := by
      rcases List.mem_cons.mp h1 with rfl | h
      · have := h0 a (List.mem_cons_self ..)
        omega
      · rcases List.mem_cons.mp h with rfl | h
        · exact q1
        · exact q2 _ h
    have e2 : r.foldl max a ≤ m := by
      rcases q3 with q3 | q3
      · rw [q3]
        exact h2 _ (List.mem_cons_of_mem _ (List.mem_cons_self ..))
      · exact h2 _ (List.mem_cons_of_mem _ (List.mem_cons_of_mem _ q3))
    omega
theorem othL_mem (xs : List Row) (j : Nat) : ∀ n y, y ∈ othL xs j n → ∃ x ∈ xs, x.l = y
  | 0, y, h => nomatch h
  | n + 1, y, h => by
    rw [othL_succ] at h
    rcases List.mem_append.mp h with h | h
    · exact othL_mem xs j n y h
    · split at h
      · cases h
      · split at h
        · rename_i x hx
          exact ⟨x, List.mem_of_getElem? hx, (List.mem_singleton.mp h).symm⟩
        · cases h
section
variable {P : Program} {w : World} {K : PySem.W.Frag} {mg : Str → Option Value} {base : Heap}

/-- a state with one row put in: here[:at] + (row,) + here[at + 1:] -/
theorem splice {m B : Addr} {σ : L2.St} {H : Hp} {ub : List V} {xs : List Row} {j : Nat} {tR : TE} {o : HO} {row : Row} {Q : VK} (h1 : σ[1]? = some (some (.ref B))) (h2 : σ[2]? = some (some (.int (j : Int)))) (hm : H m = some o) (nB : B ≠ m) (hB1 : H B = some (.tup ub)) (aB : AtAll m H ub (xs.map rowD))
    (hj : j < xs.length) (hlen : xs.length ≤ 1000) (hR : ∀ H1, Same H H1 → ∀ Q : VK, (∀ q H2, Same H1 H2 → q ≠ m → H2 q = some (.tup (rowV row)) → Q (.ref q) H2) → tR σ H1 Q)
    (k : ∀ p H', Same H H' → At m H' (.ref p) (stD (xs.set j row)) → Q (.ref p) H') :
    tOp (rCatA K) (tOp (rCatA K) (tSl (rSlA K) (tVar 1) tNoPart (tPart (tVar 2))) (tTup (tCons tR tNil))) (tSl (rSlA K) (tVar 1) (tPart (tOp (rI0 fun i j => .int (i + j)) (tVar 2) (tC (.int 1)))) tNoPart) σ H Q := by
  have lub : ub.length = xs.length := by
    rw [aB.length, List.length_map]
  have w1 : ¬ (HT.sIx ub.length 0 none = 0 ∧ HT.sIx ub.length ub.length (some (j : Int)) = ub.length) := fun z => by
    have := z.2
    rw [HT.sIx_nat] at this
    omega
  refine ⟨_, h1, _, h2, _, rfl, _, _, rfl, SqT.of hB1, fun z => absurd z w1, fun _ p1 hp1 => ?_⟩
  have c1 : cutV ub none (some (j : Int)) = ub.take j := by
    show (ub.drop 0).take (HT.sIx ub.length ub.length (some (j : Int)) - 0) = _
    rw [HT.sIx_nat, List.drop_zero, Nat.sub_zero, Nat.min_eq_left (by omega)]
  rw [c1]
  have s4 := same_new (o := .tup (ub.take j)) hp1
  refine hR _ s4 _ fun q H2 s42 nq hq => ⟨(by show 1 ≤ sizeLine; decide), fun p2 hp2 => ?_⟩
  have s5 := same_new (o := .tup [.ref q]) hp2
  have sa : Same H H2 := Same.tr s4 s42
  have hm4 := sa _ _ hm
  have n1 : p1 ≠ m := fun z => by
    rw [z, hm] at hp1
    cases hp1
  have n2 : p2 ≠ m := fun z => by
    rw [z, hm4] at hp2
    cases hp2
  show rCatA K _ _ _ _
  refine cat_any (m := m) (a := p1) (b := p2) (s5 _ _ (s42 _ _ upd_same)) upd_same n1 n2 (s5 _ _ hm4) (by rw [List.length_take]; show _ + 1 ≤ _; exact Nat.le_of_lt (small6 (by omega))) (fun p3 H5 n3 s6 h3 => ?_)
  have sm6 : Same H H5 := Same.tr (Same.tr sa s5) s6
  have hB5 := sm6 _ _ hB1
  have w2 : ¬ (HT.sIx ub.length 0 (some ((j + 1 : Nat) : Int)) = 0 ∧ HT.sIx ub.length ub.length none = ub.length) := fun z => by
    have := z.1
    rw [HT.sIx_nat] at this
    omega
  refine ⟨_, h1, _, h2, _, _, rfl, rfl, _, rfl, _, _, rfl, SqT.of hB5, fun z => absurd z w2, fun _ p4 hp4 => ?_⟩
  have c2 : cutV ub (some ((j : Int) + 1)) none = ub.drop (j + 1) := by
    show (ub.drop (HT.sIx ub.length 0 (some ((j + 1 : Nat) : Int)))).take (ub.length - HT.sIx ub.length 0 (some ((j + 1 : Nat) : Int))) = _
    rw [HT.sIx_nat, Nat.min_eq_left (by omega), List.take_of_length_le (by rw [List.length_drop]; omega)]
  rw [c2]
  have s7 := same_new (o := .tup (ub.drop (j + 1))) hp4
  have n4 : p4 ≠ m := fun z => by
    rw [z, sm6 _ _ hm] at hp4
    cases hp4
  show rCatA K _ _ _ _
  refine cat_any (m := m) (a := p3) (b := p4) (s7 _ _ h3) upd_same n3 n4 (s7 _ _ (sm6 _ _ hm)) (by rw [List.length_append, List.length_take, List.length_drop]; show _ + 1 + _ ≤ _; exact Nat.le_of_lt (small6 (by omega))) (fun p5 H6 n5 s8 h5 => ?_)
  have sm8 : Same H H6 := Same.tr (Same.tr sm6 s7) s8
  refine k p5 _ sm8 (.tup n5 h5 ?_)
  have hq6 : H6 q = some (.tup (rowV row)) := s8 _ _ (s7 _ _ (s6 _ _ (s5 _ _ hq)))
  have aB6 := aB.mono (Same.but (m := m) sm8)
  have e9 : (xs.set j row).map rowD = ((xs.map rowD).take j ++ [rowD row]) ++ (xs.map rowD).drop (j + 1) := by
    rw [List.set_eq_take_append_cons_drop, if_pos hj, List.map_append, List.map_cons, List.map_take, List.map_drop, List.append_assoc]
    rfl
  rw [e9]
  exact all_app (all_app (all_take j aB6) (.cons (row_at nq hq6) .nil)) (all_drop (j + 1) aB6)
/-- the law's own step of script number j -/
def spAfter : Sp := fun vs H Q _ => ∃ (m A B : Addr) (o : HO) (ss : List (List Wd)) (xs : List Row) (j p : Nat) (sc : List Wd) (x : Row) (v : Wd), H m = some o ∧ vs = [.ref A, .ref B, .int (j : Int)] ∧ At m H (.ref A) (scD ss) ∧ At m H (.ref B) (stD xs) ∧
  xs.length ≤ 1000 ∧ ss[j]? = some sc ∧ xs[j]? = some x ∧ x.p = (p : Int) ∧ sc[p]? = some v ∧ (∀ y ∈ xs, 0 ≤ y.l) ∧
  ∀ (q : Addr) (H' : Hp), Same H H' → At m H' (.ref q) (.tuple [stD (xs.set j (afterM v x (topM xs j)).1), .bool (afterM v x (topM xs j)).2]) → Q (.ref q) H'
theorem pr_after (D : Df K mg "_law_after" sAfter ["_law_scripts_here", "_law_here", "_law_at"]) (T : Tx mg) (TM : mg "max" = none) (PR : Pr P w K mg base 1 "_law_refused" ["_law_word", "_law_opened", "_law_lock", "_law_top"] spRefused)
    (PB : Pr P w K mg base 1 "_law_behind" ["_law_word", "_law_opened", "_law_reads", "_law_lock"] spBehind) : Pr P w K mg base 2 "_law_after" ["_law_scripts_here", "_law_here", "_law_at"] spAfter := by
  refine D.pr scAfter (fun vs H Q E h => ?_) (fun f cdv A outer s H vs Q E hr h => ?_)
  · obtain ⟨m, A, B, o, ss, xs, j, p, sc, x, v, hm, rfl, _⟩ := h
    rfl
  · obtain ⟨m, A, B, o, ss, xs, j, p, sc, x, v, hm, rfl, hA, hB, hlen, hsc, hx, hp, hv, h0, k⟩ := h
    have nd := scAfter.nd
    refine ⟨_, (pss_cons (ps_asg (pe_ix ix_tup (pv 1) (pv 2) (fun _ _ => rfl)) (pg_tup rfl (pgs_cons (pg_name (i := 3) nd rfl (Or.inl rfl)) (pgs_cons (pg_name (i := 4) nd rfl (Or.inl rfl)) (pgs_cons (pg_name (i := 5) nd rfl (Or.inl rfl)) (pgs_cons (pg_name (i := 6) nd rfl (Or.inl rfl)) pgs_nil))))))
      (pss_cons (ps_asg (pe_ix ix_tup (pe_ix ix_tup (pv 0) (pv 2) (fun _ _ => rfl)) (pv 3) (fun _ _ => rfl)) (pg_name (i := 7) nd rfl (Or.inl rfl)))
      (pss_cons (ps_asg (pe_callB (cr_max rfl) (by rfl) TM (by decide +kernel) (pa_cons (pe_op op_cat (pe_lst (pa_cons pe_int pa_nil)) (pe_lc (own := [("_law_k", 10), ("_law_row", 11)]) (g := gTup K 2 (gCons (gName 10) (gCons (gName 11) gNil))) (te := tOp (rIxT K) (tVar 11) (tC (.int 3))) (by rfl) nd (pi_enumT (by rfl) T.enumerate (pa_cons (pv 1) pa_nil))
  (blkOk_by (own := [("_law_k", 10), ("_law_row", 11)]) (N := nAfter) (sc := defScope sAfter) (by decide +kernel))
  (fun _ _ _ _ _ => pg_tup rfl (pgs_cons (pg_name (i := 10) nd rfl (Or.inl rfl) (Or.inr rfl)) (pgs_cons (pg_name (i := 11) nd rfl (Or.inl rfl) (Or.inr rfl)) pgs_nil))) (fun _ _ _ _ _ => pts_one (pt_cmpR op_ne (pv 10) (pv 2) (nomark _)))
  (fun _ _ _ _ _ => (pe_ix ix_tup (pv 11) pe_int (fun _ _ => rfl))))) pa_nil)) (pg_name (i := 8) nd rfl (Or.inl rfl)))
      (pss_cons (ps_if (pt_val (pe_callP PR hr (by rfl) (pa_cons (pv 7) (pa_cons (pv 4) (pa_cons (pv 6) (pa_cons (pv 8) pa_nil))))))
        (pss_cons (ps_asg (pe_ifExp (pt_cmpR op_eq (pv 7) pe_str (nomark _)) (pe_callB (call_max2 rfl) (by rfl) TM (by decide +kernel) (pa_cons (pv 6) (pa_cons pe_int pa_nil))) (pv 6)) (pg_name (i := 9) nd rfl (Or.inl rfl)))
        (pss_one (ps_ret (pe_tup (pa_cons (pe_op op_catA (pe_op op_catA (pe_slice sl_tupA (pv 1) po_none (po_some (pv 2))) (pe_tup (pa_cons (pe_tup (pa_cons (pv 3) (pa_cons (pv 4) (pa_cons (pv 5) (pa_cons (pv 9) pa_nil))))) pa_nil))) (pe_slice sl_tupA (pv 1) (po_some (pe_op op_add (pv 2) pe_int)) po_none)) (pa_cons pe_bl pa_nil))))))
        pss_nil)
      (pss_one (ps_ret (pe_tup (pa_cons (pe_op op_catA (pe_op op_catA (pe_slice sl_tupA (pv 1) po_none (po_some (pv 2))) (pe_tup (pa_cons (pe_op op_catA (pe_tup (pa_cons (pe_op op_add (pv 3) pe_int) pa_nil)) (pe_callP PB hr (by rfl) (pa_cons (pv 7) (pa_cons (pv 4) (pa_cons (pv 5) (pa_cons (pv 6) pa_nil)))))) pa_nil))) (pe_slice sl_tupA (pv 1) (po_some (pe_op op_add (pv 2) pe_int)) po_none)) (pa_cons pe_bl pa_nil))))))))), ?_⟩
    obtain ⟨_, ua, ea, nA, hA1, aA⟩ := at_tup hA
    cases ea
    obtain ⟨_, ub, eb, nB, hB1, aB⟩ := at_tup hB
    cases eb
    have lub : ub.length = xs.length := by
      rw [aB.length, List.length_map]
    have hj : j < xs.length := (List.getElem?_eq_some_iff.mp hx).1
    obtain ⟨vsc, es1, asc⟩ := all_get (i := j) (d := .tuple (sc.map fun v => .str (wS v))) aA (by rw [List.getElem?_map, hsc]; rfl)
    obtain ⟨aS, us, rfl, nS, hS, aS2⟩ := at_tup asc
    obtain ⟨vv, ev1, av⟩ := all_get (i := p) (d := .str (wS v)) aS2 (by rw [List.getElem?_map, hv]; rfl)
    cases av
    obtain ⟨vR, er1, aR⟩ := all_get (i := j) (d := rowD x) aB (by rw [List.getElem?_map, hx]; rfl)
    obtain ⟨R, rfl, nR, hR⟩ := row_of aR
    have hp2 : rowV x = [.int (p : Int), .bl x.o, .bl x.r, .int x.l] := by
      unfold rowV
      rw [hp]
    have hR2 : H R = some (.tup [.int (p : Int), .bl x.o, .bl x.r, .int x.l]) := by
      rw [← hp2]
      exact hR
    refine ⟨_, rfl, _, rfl, _, _, _, _, rfl, rfl, SqT.of hB1, atI_nat er1, ?_⟩
    refine ⟨_, _, rfl, SqT.of hR2, rfl, _, _, rfl, _, _, rfl, _, _, rfl, _, _, rfl, rfl, ?_⟩
    refine ⟨_, rfl, _, rfl, _, _, _, _, rfl, rfl, SqT.of hA1, atI_nat es1, ?_⟩
    refine ⟨_, rfl, _, _, _, _, rfl, rfl, SqT.of hS, atI_nat ev1, ?_⟩
    refine ⟨(by show 1 ≤ sizeLine; decide), fun Z hZ => ?_⟩
    have sZ := same_new (o := .lst [.int 0]) hZ
    refine ⟨_, rfl, _, _, rfl, SqT.of (sZ _ _ hB1), fun Dl hD => ?_⟩
    refine lc_it (walk_enumT (xs := ub)) (fun i H2 => Same (upd H Z (.lst [.int 0])) H2 ∧ H2 Dl = some (.lst ((othL xs j i).map V.int))) ?_ ?_ ?_ ?_
    · exact ⟨same_new hD, upd_same⟩
    · exact fun i H2 _ q => SqT.of (q.1 _ _ (sZ _ _ hB1))
    · rintro i y H2 H3 hi ⟨sm, hl⟩ ⟨T2, i', vr, rfl, hT2, rfl, ei, er⟩
      obtain rfl : V.int (i : Nat) = i' := Option.some.inj ei
      have hix : i < xs.length := by omega
      obtain ⟨dr, e1, ar⟩ := aB.get er
      rw [List.getElem?_map, List.getElem?_eq_getElem hix] at e1
      cases e1
      obtain ⟨R, rfl, nR, hR⟩ := row_of ar
      have sT : Same (upd H Z (.lst [.int 0])) (upd H2 T2 (.tup [.int (i : Nat), .ref R])) := Same.tr sm (same_new hT2)
      have nDT : Dl ≠ T2 := ne_of_none hl hT2
      have hl3 : (upd H2 T2 (.tup [.int (i : Nat), .ref R])) Dl = some (.lst ((othL xs j i).map V.int)) := by
        rw [upd_ne nDT]
        exact hl
      refine ⟨_, _, rfl, SqT.of upd_same, rfl, _, _, rfl, _, _, rfl, rfl, rfl, ?_⟩
      refine ⟨_, rfl, _, rfl, rfl, _, rfl, ?_⟩
      by_cases hij : i = j
      · rw [decide_eq_true (show V.int ((i : Nat) : Int) = V.int ((j : Nat) : Int) by rw [hij])]
        refine iteF ⟨sT, ?_⟩
        rw [hl3, othL_succ, if_pos hij, List.append_nil]
      · rw [decide_eq_false (show ¬ V.int ((i : Nat) : Int) = V.int ((j : Nat) : Int) from fun z => hij (by have := V.int.inj z; omega))]
        refine iteT ⟨_, rfl, R, _, _, _, rfl, rfl, SqT.of (sT _ _ (sZ _ _ hR)), rfl, _, hl3, ?_, ?_, ?_⟩
        · rw [List.length_map]
          have := othL_len xs j i
          exact small6 (by omega)
        · intro b u e
          rw [upd_ne (ne_of_none e hD)]
          exact sT _ _ e
        · rw [upd_same, othL_succ, if_neg hij, List.getElem?_eq_getElem hix, List.map_append]
          rfl
    · rintro H2 ⟨s2, hl⟩
      rw [lub] at hl
      have hlo := othL_len xs j xs.length
      refine ⟨_, _, _, _, rfl, rfl, s2 _ _ upd_same, hl, (by rw [List.length_map]; show 1 + _ ≤ _; exact Nat.le_of_lt (small6 (by omega))), fun p9 hp9 => ?_⟩
      refine ⟨_, (0 : Int) :: othL xs j xs.length, rfl, SqL.of upd_same, (by simp), fun tp ht1 ht2 => ?_⟩
      obtain rfl : tp = topM xs j := top_is (fun n hn => (othL_mem xs j _ n hn).elim fun y hy => hy.2 ▸ h0 y hy.1) ht1 ht2
      have sm := Same.tr sZ (Same.tr s2 (same_new (o := .lst ([.int 0] ++ (othL xs j xs.length).map V.int)) hp9))
      refine ⟨_, rfl, _, rfl, _, rfl, _, rfl, v, x.o, x.l, topM xs j, rfl, fun H3 s3 => ?_⟩
      have sm3 : Same H H3 := Same.tr sm s3
      have hm3 := sm3 _ _ hm
      unfold afterM at k
      refine ⟨_, rfl, ?_⟩
      refine ite2 (fun hb => ?_) (fun hb => ?_)
      · rw [if_pos hb] at k
        refine seq_asg_tv (.int (if v = .com then max x.l 3 else x.l)) (fun Q' kk => ?_) ?_
        · refine ⟨_, rfl, rfl, _, rfl, ?_⟩
          rw [show decide (V.str (wS v) = V.str (Str.ofString "commit")) = decide (v = .com) from eqW v .com]
          by_cases hc : v = .com
          · rw [decide_eq_true hc]
            rw [if_pos hc, ← max2] at kk
            exact iteT ⟨_, rfl, _, _, rfl, kk⟩
          · rw [decide_eq_false hc]
            rw [if_neg hc] at kk
            exact iteF ⟨_, rfl, kk⟩
        · refine splice (m := m) (B := B) (row := ⟨x.p, x.o, x.r, if v = .com then max x.l 3 else x.l⟩) rfl rfl hm3 nB (sm3 _ _ hB1) (aB.mono (Same.but sm3)) hj hlen (fun H4 s4 Q' kk => ?_) (fun p H' s' a' => ?_)
          · refine ⟨_, rfl, _, rfl, _, rfl, _, rfl, (by show 4 ≤ sizeLine; decide), fun q hq => ?_⟩
            refine kk q _ (same_new hq) (fun z => by rw [z, s4 _ _ hm3] at hq; cases hq) ?_
            rw [upd_same, ← hp]
            rfl
          · refine ⟨(by show 2 ≤ sizeLine; decide), fun q hq => ?_⟩
            have s'' := Same.tr sm3 s'
            refine k q _ (Same.tr s'' (same_new hq)) (.tup (fun z => by rw [z, s'' _ _ hm] at hq; cases hq) upd_same (.cons (a'.mono (Same.but (same_new hq))) (.cons (.bl _) .nil)))
      · rw [if_neg hb] at k
        refine splice (m := m) (B := B) (row := ⟨x.p + 1, bO v x.o, bR v x.r, bL v x.o x.r x.l⟩) rfl rfl hm3 nB (sm3 _ _ hB1) (aB.mono (Same.but sm3)) hj hlen (fun H4 s4 Q' kk => ?_) (fun p H' s' a' => ?_)
        · refine ⟨_, rfl, _, _, rfl, rfl, (by show 1 ≤ sizeLine; decide), fun q1 hq1 => ?_⟩
          have s5 := same_new (o := .tup [.int ((p : Int) + 1)]) hq1
          refine ⟨_, rfl, _, rfl, _, rfl, _, rfl, v, x.o, x.r, x.l, rfl, fun q2 H5 nq2 s6 hq2 => ?_⟩
          refine cat_any (m := m) (a := q1) (b := q2) (s6 _ _ upd_same) hq2 (fun z => by rw [z, s4 _ _ hm3] at hq1; cases hq1) (fun z => by rw [z, s5 _ _ (s4 _ _ hm3)] at nq2; cases nq2) (s6 _ _ (s5 _ _ (s4 _ _ hm3))) (by show 1 + 3 ≤ sizeLine; decide) (fun p3 H6 n3 s7 h3 => ?_)
          refine kk p3 _ (Same.tr s5 (Same.tr s6 s7)) n3 ?_
          rw [h3, ← hp]
          rfl
        · refine ⟨(by show 2 ≤ sizeLine; decide), fun q hq => ?_⟩
          have s'' := Same.tr sm3 s'
          refine k q _ (Same.tr s'' (same_new hq)) (.tup (fun z => by rw [z, s'' _ _ hm] at hq; cases hq) upd_same (.cons (a'.mono (Same.but (same_new hq))) (.cons (.bl _) .nil)))
end
end C78

set_option Elab.async false
set_option maxRecDepth 100000
set_option maxHeartbeats 4000000
set_option linter.all false
namespace C78
open PySem L2 My M78

/-- what holds of a row of the script sc at every state that can be reached -/
def RI (sc : List Wd) (x : Row) : Prop := ∃ p : Nat, x.p = (p : Int) ∧ p ≤ sc.length ∧ x.o = (flg sc p).1 ∧ x.r = (flg sc p).2 ∧ 0 ≤ x.l ∧ x.l ≤ 4 ∧ (x.o = false → x.l = restL x.r)
/-- the four kinds of another's lock -/
theorem t4 (t : Int) : (¬ 1 ≤ t ∧ ¬ 2 ≤ t ∧ ¬ 3 ≤ t) ∨ (1 ≤ t ∧ ¬ 2 ≤ t ∧ ¬ 3 ≤ t) ∨ (1 ≤ t ∧ 2 ≤ t ∧ ¬ 3 ≤ t) ∨ (1 ≤ t ∧ 2 ≤ t ∧ 3 ≤ t) := by omega
theorem lt3 (t : Int) : (2 < t) = (3 ≤ t) := propext (by omega)
theorem lt2' (t : Int) : (1 < t) = (2 ≤ t) := propext (by omega)
theorem lt1 (t : Int) : (0 < t) = (1 ≤ t) := propext (by omega)
theorem l5 {l : Int} (h0 : 0 ≤ l) (h4 : l ≤ 4) : l = 0 ∨ l = 1 ∨ l = 2 ∨ l = 3 ∨ l = 4 := by omega
theorem after_eq {v : Wd} {x : Row} {t : Int} (h0 : 0 ≤ x.l) (h4 : x.l ≤ 4) (hr : x.o = false → x.l = restL x.r) (ok : okW v x.o x.r = true) : afterM v x t = triedM v x t := by
  obtain ⟨p, o, r, l⟩ := x
  dsimp only at h0 h4 hr ok
  cases o
  · have hl := hr rfl
    subst hl
    clear hr h0 h4
    rcases t4 t with ⟨a, b, c⟩ | ⟨a, b, c⟩ | ⟨a, b, c⟩ | ⟨a, b, c⟩ <;> cases v <;> cases r <;> first | (exfalso; revert ok; decide) | (
      clear ok
      simp [afterM, triedM, refM, isOp, isEn, isRs, isRsw, openL, workL, endL, bO, bR, bL, leastM, restL, lt3, lt2', lt1, a, b, c] <;> first | rfl | decide | omega)
  · clear hr
    rcases l5 h0 h4 with rfl | rfl | rfl | rfl | rfl <;> clear h0 h4 <;> rcases t4 t with ⟨a, b, c⟩ | ⟨a, b, c⟩ | ⟨a, b, c⟩ | ⟨a, b, c⟩ <;> cases v <;> cases r <;> first | (exfalso; revert ok; decide) | (
      clear ok
      simp [afterM, triedM, refM, isOp, isEn, isRs, isRsw, openL, workL, endL, bO, bR, bL, leastM, restL, lt3, lt2', lt1, a, b, c] <;> first | rfl | decide | omega)
theorem tried_row {v : Wd} {x : Row} {t : Int} (h0 : 0 ≤ x.l) (h4 : x.l ≤ 4) (hr : x.o = false → x.l = restL x.r) (ok : okW v x.o x.r = true) :
    ((triedM v x t).1.p = x.p ∧ (triedM v x t).1.o = x.o ∧ (triedM v x t).1.r = x.r ∨ (triedM v x t).1.p = x.p + 1 ∧ (triedM v x t).1.o = opB v x.o ∧ (triedM v x t).1.r = rdB v x.r) ∧
    0 ≤ (triedM v x t).1.l ∧ (triedM v x t).1.l ≤ 4 ∧ ((triedM v x t).1.o = false → (triedM v x t).1.l = restL (triedM v x t).1.r) := by
  obtain ⟨p, o, r, l⟩ := x
  dsimp only at h0 h4 hr ok
  cases o
  · have hl := hr rfl
    subst hl
    clear hr h0 h4
    rcases t4 t with ⟨a, b, c⟩ | ⟨a, b, c⟩ | ⟨a, b, c⟩ | ⟨a, b, c⟩ <;> cases v <;> cases r <;> first | (exfalso; revert ok; decide) | (
      clear ok
      simp [triedM, isOp, isEn, isRs, isRsw, openL, workL, endL, opB, rdB, restL, a, b, c] <;> first | rfl | decide | omega)
  · clear hr
    rcases l5 h0 h4 with rfl | rfl | rfl | rfl | rfl <;> clear h0 h4 <;> rcases t4 t with ⟨a, b, c⟩ | ⟨a, b, c⟩ | ⟨a, b, c⟩ | ⟨a, b, c⟩ <;> cases v <;> cases r <;> first | (exfalso; revert ok; decide) | (
      clear ok
      simp [triedM, isOp, isEn, isRs, isRsw, openL, workL, endL, opB, rdB, restL, a, b, c] <;> first | rfl | decide | omega)
theorem flg_succ {sc : List Wd} {p : Nat} {v : Wd} (h : sc[p]? = some v) : flg sc (p + 1) = (opB v (flg sc p).1, rdB v (flg sc p).2) := by
  show (match sc[p]? with | some v => (opB v (flg sc p).1, rdB v (flg sc p).2) | none => flg sc p) = _
  rw [h]
theorem RI.step {sc : List Wd} {x : Row} {p : Nat} {v : Wd} {t : Int} (h : RI sc x) (ok : okScr sc) (hp : x.p = (p : Int)) (hv : sc[p]? = some v) : afterM v x t = triedM v x t ∧ RI sc (triedM v x t).1 := by
  obtain ⟨p', e, hle, ho, hr, h0, h4, hl⟩ := h
  obtain rfl : p' = p := by omega
  have okv := ok.2 _ _ hv
  rw [← ho, ← hr] at okv
  refine ⟨after_eq h0 h4 hl okv, ?_⟩
  obtain ⟨h1, h2, h3, h5⟩ := tried_row (t := t) h0 h4 hl okv
  have hlt : p' < sc.length := (List.getElem?_eq_some_iff.mp hv).1
  rcases h1 with ⟨a, b, c⟩ | ⟨a, b, c⟩
  · exact ⟨p', a.trans hp, hle, b.trans ho, c.trans hr, h2, h3, h5⟩
  · refine ⟨p' + 1, by rw [a, hp]; rfl, hlt, ?_, ?_, h2, h3, h5⟩
    · rw [b, flg_succ hv, ho]
    · rw [c, flg_succ hv, hr]
/-- what holds of a state -/
def SI (ss : List (List Wd)) (xs : List Row) : Prop := Paired RI ss xs
theorem RI.zero (sc : List Wd) : RI sc row0 := ⟨0, rfl, Nat.zero_le _, rfl, rfl, Int.le_refl _, by decide, fun _ => rfl⟩
theorem SI.zero : ∀ ss : List (List Wd), SI ss (List.replicate ss.length row0)
  | [] => .nil
  | sc :: r => .cons (RI.zero sc) (SI.zero r)
theorem SI.get {ss : List (List Wd)} : ∀ {xs : List Row} {j : Nat} {sc : List Wd} {x : Row}, SI ss xs → ss[j]? = some sc → xs[j]? = some x → RI sc x := by
  intro xs j sc x h e1 e2
  obtain ⟨sc', e3, h2⟩ := paired_get h e2
  rw [e1] at e3
  cases e3
  exact h2
theorem paired_set {α β : Type} {R : α → β → Prop} : ∀ {xs : List α} {ys : List β} {i : Nat} {x : α} {y : β}, Paired R xs ys → xs[i]? = some x → R x y → Paired R xs (ys.set i y)
  | _, _, _, _, _, .nil, e, _ => by simp at e
  | _, _, 0, _, _, .cons h q, e, r => by
    simp at e
    subst e
    exact .cons r q
  | _, _, i + 1, _, _, .cons h q, e, r => .cons h (paired_set (i := i) q (by simpa using e) r)
theorem SI.set {ss : List (List Wd)} {xs : List Row} {j : Nat} {sc : List Wd} {x : Row} (h : SI ss xs) (e1 : ss[j]? = some sc) (r : RI sc x) : SI ss (xs.set j x) := paired_set h e1 r
theorem SI.nonneg {ss : List (List Wd)} {xs : List Row} (h : SI ss xs) : ∀ y ∈ xs, 0 ≤ y.l := fun y hy => by
  obtain ⟨i, hi, e⟩ := List.getElem_of_mem hy
  obtain ⟨sc, _, r⟩ := paired_get h (i := i) (y := y) (by rw [List.getElem?_eq_getElem hi, e])
  obtain ⟨p, _, _, _, _, h0, _⟩ := r
  exact h0
theorem waitL_mem {ss : List (List Wd)} {xs : List Row} : ∀ {n j : Nat}, j ∈ waitL ss xs n → ∃ sc x, j < n ∧ ss[j]? = some sc ∧ xs[j]? = some x ∧ x.p < (sc.length : Int)
  | 0, j, h => nomatch h
  | n + 1, j, h => by
    unfold waitL at h
    rcases List.mem_append.mp h with h | h
    · obtain ⟨sc, x, h1, h2⟩ := waitL_mem h
      exact ⟨sc, x, by omega, h2⟩
    · split at h
      · rename_i s x e1 e2
        split at h
        · obtain rfl := List.mem_singleton.mp h
          exact ⟨s, x, by omega, e1, e2, by assumption⟩
        · cases h
      · cases h
theorem waitL_has {ss : List (List Wd)} {xs : List Row} {j : Nat} {sc : List Wd} {x : Row} (e1 : ss[j]? = some sc) (e2 : xs[j]? = some x) (h : x.p < (sc.length : Int)) : ∀ {n : Nat}, j < n → j ∈ waitL ss xs n
  | 0, hn => absurd hn (by omega)
  | n + 1, hn => by
    unfold waitL
    by_cases e : j = n
    · subst e
      rw [e1, e2]
      exact List.mem_append.mpr (.inr (by dsimp only; rw [if_pos h]; exact List.mem_singleton.mpr rfl))
    · exact List.mem_append.mpr (.inl (waitL_has e1 e2 h (by omega)))
end C78

set_option Elab.async false
set_option maxRecDepth 100000
set_option maxHeartbeats 4000000
set_option linter.all false
namespace C78
open PySem L2 My M78
abbrev sScript : Stmt := top 31
abbrev nScript : List Str := ["_law_state", "_law_many", "_law_found", "_law_opened", "_law_reads", "_law_usual", "_law_upto", "_law_k", "_law_some", "_law_word"]
theorem scScript : FnScope nScript ["_law_state", "_law_many"] (defScope sScript) := ⟨rfl, rfl, rfl, by decide +kernel, rfl, by decide +kernel, by decide +kernel⟩

def wV (ws : List Wd) : List V := ws.map fun v => V.str (wS v)
theorem flat_words (ws : List Wd) : (wV ws).all flatV = true := List.all_eq_true.mpr fun x hx => by
  obtain ⟨v, _, rfl⟩ := List.mem_map.mp hx
  rfl
theorem eqV_w (v u : Wd) : eqV (.str (wS v)) (.str (wS u)) = decide (v = u) := by cases v <;> cases u <;> decide +kernel
theorem in_words {u : Wd} {ws : List Wd} (h : inV (.str (wS u)) (wV ws) = true) : u ∈ ws := by
  obtain ⟨y, hy, e⟩ := List.any_eq_true.mp h
  obtain ⟨v, hv, rfl⟩ := List.mem_map.mp hy
  rw [eqV_w] at e
  exact of_decide_eq_true e ▸ hv
def someW (o r : Bool) : List Wd := [.rea, .wri, if r then .sto else .sta] ++ (if o then [.com, .rol, .rea, .wri, .com] else [.beg, .beg, .imm, .exc])
theorem some_ok {v : Wd} {o r : Bool} (h : v ∈ someW o r) : okW v o r = true := by
  revert h
  cases o <;> cases r <;> cases v <;> decide
theorem bO_is (v : Wd) (o : Bool) : bO v o = opB v o := by cases v <;> cases o <;> rfl
theorem bR_is (v : Wd) (r : Bool) : bR v r = rdB v r := by cases v <;> cases r <;> rfl
theorem flg_app (sc ys : List Wd) : ∀ {n : Nat}, n ≤ sc.length → flg (sc ++ ys) n = flg sc n
  | 0, _ => rfl
  | n + 1, h => by
    show (match (sc ++ ys)[n]? with | some v => (opB v (flg (sc ++ ys) n).1, rdB v (flg (sc ++ ys) n).2) | none => flg (sc ++ ys) n) = (match sc[n]? with | some v => (opB v (flg sc n).1, rdB v (flg sc n).2) | none => flg sc n)
    rw [List.getElem?_append_left (by omega), flg_app sc ys (by omega)]
def okAll (sc : List Wd) : Prop := ∀ n v, sc[n]? = some v → okW v (flg sc n).1 (flg sc n).2 = true
theorem okAll.snoc {sc : List Wd} {v : Wd} (h : okAll sc) (hv : okW v (flg sc sc.length).1 (flg sc sc.length).2 = true) : okAll (sc ++ [v]) := fun n u e => by
  by_cases hn : n < sc.length
  · rw [List.getElem?_append_left hn] at e
    rw [flg_app sc [v] (by omega)]
    exact h n u e
  · have : n = sc.length := by
      have := (List.getElem?_eq_some_iff.mp e).1
      simp at this
      omega
    subst this
    rw [flg_app sc [v] (Nat.le_refl _)]
    simp at e
    subst e
    exact hv
theorem at_words {m : Addr} {H : Hp} : ∀ ws : List Wd, AtAll m H (wV ws) (scE ws)
  | [] => .nil
  | v :: r => .cons (.str _) (at_words r)
section
variable {P : Program} {w : World} {K : PySem.W.Frag} {mg : Str → Option Value} {base : Heap}

def spScript : Sp := fun vs H Q _ => ∃ (st c : Addr) (ns : List Int) (n : Nat), vs = [.ref st, .int (n : Int)] ∧ Drw H st c ns ∧ ns.length ≤ 63 ∧ n ≤ 8 ∧
  ∀ (sc : List Wd) (q : Addr) (H' : Hp), okScr sc → H q = none → H' q = some (.tup (wV sc)) → Drw H' st c ns → But st H H' → Q (.ref q) H'
theorem pr_script (D : Df K mg "_law_script" sScript ["_law_state", "_law_many"]) (T : Tx mg) (T2 : Ty mg) (TR : mg "range" = none) (TM : mg "min" = none) (PT : Pr P w K mg base 2 "_law_take" ["_law_state", "_law_many"] spTake) (PO : Pr P w K mg base 3 "_law_one" ["_law_state", "_law_things"] (spOne K)) :
    Pr P w K mg base 4 "_law_script" ["_law_state", "_law_many"] spScript := by
  refine D.pr scScript (fun vs H Q E h => ?_) (fun f cdv A outer s H vs Q E hr h => ?_)
  · obtain ⟨st, c, ns, n, rfl, _⟩ := h
    rfl
  · obtain ⟨st, c, ns, n, rfl, dr, hns, hn8, k⟩ := h
    have nd := scScript.nd
    have hr2 := hr.mono (show 2 ≤ 3 by decide)
    refine ⟨_, (pss_cons (ps_par3 (by rfl) nd (i := 2) (j := 3) (l := 4) rfl rfl rfl (by decide) (by decide) (by decide) rfl rfl rfl (pa_cons (pe_lst pa_nil) (pa_cons pe_bl (pa_cons pe_bl pa_nil))) (by rfl))
      (pss_cons (ps_asg (pe_callP PO hr (by rfl) (pa_cons (pv 0) (pa_cons (pe_lst (pa_cons (pe_tup (pa_cons pe_str (pa_cons pe_str (pa_cons pe_str (pa_cons pe_str pa_nil))))) (pa_cons (pe_tup (pa_cons pe_str (pa_cons pe_str (pa_cons pe_str pa_nil)))) (pa_cons (pe_tup (pa_cons pe_str (pa_cons pe_str pa_nil))) (pa_cons (pe_tup (pa_cons pe_str (pa_cons pe_str (pa_cons pe_str pa_nil)))) (pa_cons (pe_tup (pa_cons pe_str (pa_cons pe_str (pa_cons pe_str pa_nil)))) (pa_cons (pe_tup (pa_cons pe_str (pa_cons pe_str (pa_cons pe_str pa_nil)))) pa_nil))))))) pa_nil))) (pg_name (i := 5) nd rfl (Or.inl rfl)))
      (pss_cons (ps_asg (pe_callP PT hr2 (by rfl) (pa_cons (pv 0) (pa_cons (pe_op op_mul pe_int (pe_callB call_len (by rfl) T.len PySem.boot_len (pa_cons (pv 5) pa_nil))) pa_nil))) (pg_name (i := 6) nd rfl (Or.inl rfl)))
      (pss_cons (ps_for PassesOwn.never rfl (pi_range1 rfl TR (pa_cons (pe_op op_sub (pv 1) (pe_op op_mul (pe_callP PT hr2 (by rfl) (pa_cons (pv 0) (pa_cons pe_int pa_nil))) (pe_callTy call_int1 (by rfl) T.int (by decide +kernel) (pa_cons (pe_cmpR op_gt (pv 1) pe_int (nomark _)) pa_nil)))) pa_nil)) (pg_name (i := 7) nd rfl (Or.inl rfl))
        (pss_cons (ps_asg (pe_lst (pa_cons pe_str (pa_cons pe_str (pa_cons (pe_ix ix_tup (pe_tup (pa_cons pe_str (pa_cons pe_str pa_nil))) (pe_callTy call_int1 (by rfl) T.int (by decide +kernel) (pa_cons (pv 4) pa_nil)) (fun _ _ => rfl)) pa_nil)))) (pg_name (i := 8) nd rfl (Or.inl rfl)))
        (Evl.pss_cut (ps_if (pt_val (pv 3))
          (pss_one (ps_asg (pe_op op_cat (pv 8) (pe_lst (pa_cons pe_str (pa_cons pe_str (pa_cons pe_str (pa_cons pe_str (pa_cons pe_str pa_nil))))))) (pg_name (i := 8) nd rfl (Or.inl rfl))))
          (pss_one (ps_asg (pe_op op_cat (pv 8) (pe_lst (pa_cons pe_str (pa_cons pe_str (pa_cons pe_str (pa_cons pe_str pa_nil)))))) (pg_name (i := 8) nd rfl (Or.inl rfl)))))
        (pss_cons (ps_asg (pe_callP PO hr (by rfl) (pa_cons (pv 0) (pa_cons (pv 8) pa_nil))) (pg_name (i := 9) nd rfl (Or.inl rfl)))
        (Evl.pss_cut (ps_if (PW.pt (pw_and (pt_cmpR op_lt (pv 7) (pe_callB (call_min2 rfl) (by rfl) TM (by decide +kernel) (pa_cons (pv 6) (pa_cons (pe_callB call_len (by rfl) T.len PySem.boot_len (pa_cons (pv 5) pa_nil)) pa_nil))) (nomark _)) (pw_and1 (pt_cmpR op_in_seq (pe_ix ix_tup (pv 5) (pv 7) (fun _ _ => rfl)) (pv 8) (by rfl)))))
          (pss_one (ps_asg (pe_ix ix_tup (pv 5) (pv 7) (fun _ _ => rfl)) (pg_name (i := 9) nd rfl (Or.inl rfl))))
          pss_nil)
        (pss_cons (ps_expr (pe_bm PySem.F.plainAttrs_list PySem.F.slot_list_append PySem.F.type_list_append mt_append (pv 2) (pa_cons (pv 9) pa_nil)))
        (pss_cons (ps_asg (pe_and (pe_cmpR op_notIn_seq (pv 9) (pe_tup (pa_cons pe_str (pa_cons pe_str pa_nil))) (by rfl)) (pe_one (pe_or (pv 3) (pe_one (pe_cmpR op_in_seq (pv 9) (pe_tup (pa_cons pe_str (pa_cons pe_str (pa_cons pe_str pa_nil)))) (by rfl)))))) (pg_name (i := 3) nd rfl (Or.inl rfl)))
        (pss_one (ps_asg (pe_and (pe_cmpR op_ne (pv 9) pe_str (nomark _)) (pe_one (pe_or (pv 4) (pe_one (pe_cmpR op_eq (pv 9) pe_str (nomark _)))))) (pg_name (i := 4) nd rfl (Or.inl rfl)))))))))))
      (pss_one (ps_ret (pe_callTy call_tuple_of (by rfl) T2.tuple (by decide +kernel) (pa_cons (pv 2) pa_nil)))))))), ?_⟩
    refine ⟨(by show 0 ≤ sizeLine; decide), fun F hF => ⟨_, _, _, rfl, ?_⟩⟩
    have sF := same_new (o := HO.lst []) hF
    have eF : upd H F (.lst []) F = some (.lst []) := upd_same
    generalize upd H F (.lst []) = H0 at sF eF ⊢
    have dr0 := dr.same sF
    have nF : F ≠ st := dr.nst hF
    have b0 : But st H H0 := Same.but sF
    -- usual
    refine ⟨_, rfl, (by show 4 ≤ sizeLine; decide), fun T1 nT1 => ?_⟩
    generalize hT1 : upd H0 T1 _ = H1
    have s1 : Same H0 H1 := hT1 ▸ Same.new nT1
    have e1 : H1 T1 = some (.tup [.str (Str.ofString "begin"), .str (Str.ofString "read"), .str (Str.ofString "write"), .str (Str.ofString "commit")]) := hT1 ▸ upd_same
    clear hT1
    refine ⟨(by show 3 ≤ sizeLine; decide), fun T3 nT3 => ?_⟩
    generalize hT3 : upd H1 T3 _ = H3
    have s3 : Same H1 H3 := hT3 ▸ Same.new nT3
    have e3 : H3 T3 = some (.tup [.str (Str.ofString "immediate"), .str (Str.ofString "write"), .str (Str.ofString "commit")]) := hT3 ▸ upd_same
    clear hT3
    refine ⟨(by show 2 ≤ sizeLine; decide), fun T4 nT4 => ?_⟩
    generalize hT4 : upd H3 T4 _ = H4
    have s4 : Same H3 H4 := hT4 ▸ Same.new nT4
    have e4 : H4 T4 = some (.tup [.str (Str.ofString "write"), .str (Str.ofString "read")]) := hT4 ▸ upd_same
    clear hT4
    refine ⟨(by show 3 ≤ sizeLine; decide), fun T5 nT5 => ?_⟩
    generalize hT5 : upd H4 T5 _ = H5
    have s5 : Same H4 H5 := hT5 ▸ Same.new nT5
    have e5 : H5 T5 = some (.tup [.str (Str.ofString "start"), .str (Str.ofString "begin"), .str (Str.ofString "write")]) := hT5 ▸ upd_same
    clear hT5
    refine ⟨(by show 3 ≤ sizeLine; decide), fun T6 nT6 => ?_⟩
    generalize hT6 : upd H5 T6 _ = H6
    have s6 : Same H5 H6 := hT6 ▸ Same.new nT6
    have e6 : H6 T6 = some (.tup [.str (Str.ofString "begin"), .str (Str.ofString "read"), .str (Str.ofString "commit")]) := hT6 ▸ upd_same
    clear hT6
    refine ⟨(by show 3 ≤ sizeLine; decide), fun T7 nT7 => ?_⟩
    generalize hT7 : upd H6 T7 _ = H7
    have s7 : Same H6 H7 := hT7 ▸ Same.new nT7
    have e7 : H7 T7 = some (.tup [.str (Str.ofString "exclusive"), .str (Str.ofString "read"), .str (Str.ofString "commit")]) := hT7 ▸ upd_same
    clear hT7
    refine ⟨(by show 6 ≤ sizeLine; decide), fun T8 nT8 => ?_⟩
    generalize hT8 : upd H7 T8 _ = H8
    have s8 : Same H7 H8 := hT8 ▸ Same.new nT8
    have e8 : H8 T8 = some (.lst [.ref T1, .ref T3, .ref T4, .ref T5, .ref T6, .ref T7]) := hT8 ▸ upd_same
    clear hT8
    have s78 := s8
    have s68 := Same.tr s7 s78
    have s58 := Same.tr s6 s68
    have s48 := Same.tr s5 s58
    have s38 := Same.tr s4 s48
    have s18 := Same.tr s3 s38
    have s08 := Same.tr s1 s18
    have dr8 := dr0.same s08
    have q1 : ∀ x, x ∈ [V.ref T1, .ref T3, .ref T4, .ref T5, .ref T6, .ref T7] → ∃ u us, x = .ref u ∧ u ≠ st ∧ H8 u = some (.tup (wV us)) ∧ 0 < us.length ∧ us.length ≤ 4 := by
      intro x hx
      simp only [List.mem_cons, List.not_mem_nil, or_false] at hx
      rcases hx with rfl | rfl | rfl | rfl | rfl | rfl
      · exact ⟨T1, [.beg, .rea, .wri, .com], rfl, dr0.nst nT1, s18 _ _ e1, by decide, by decide⟩
      · exact ⟨T3, [.imm, .wri, .com], rfl, (dr0.same s1).nst nT3, s38 _ _ e3, by decide, by decide⟩
      · exact ⟨T4, [.wri, .rea], rfl, (dr0.same (Same.tr s1 s3)).nst nT4, s48 _ _ e4, by decide, by decide⟩
      · exact ⟨T5, [.sta, .beg, .wri], rfl, (dr0.same (Same.tr s1 (Same.tr s3 s4))).nst nT5, s58 _ _ e5, by decide, by decide⟩
      · exact ⟨T6, [.beg, .rea, .com], rfl, (dr0.same (Same.tr s1 (Same.tr s3 (Same.tr s4 s5)))).nst nT6, s68 _ _ e6, by decide, by decide⟩
      · exact ⟨T7, [.exc, .rea, .com], rfl, (dr0.same (Same.tr s1 (Same.tr s3 (Same.tr s4 (Same.tr s5 s6))))).nst nT7, s78 _ _ e7, by decide, by decide⟩
    refine ⟨st, c, T8, ns, _, rfl, dr8, hns, (dr0.same (Same.tr s1 (Same.tr s3 (Same.tr s4 (Same.tr s5 (Same.tr s6 s7)))))).nst nT8, .inl (SqL.of e8), (by show 0 < 6; decide), (by show 6 ≤ 10000; decide), fun x H9 hx dr9 b9 => ?_⟩
    obtain ⟨u, us, rfl, nu, hu8, hu1, hu4⟩ := q1 x hx
    have hu9 := b9 _ _ hu8 nu
    have hF9 : H9 F = some (.lst []) := b9 _ _ (s08 _ _ eF) nF
    have bb9 : But st H H9 := (b0.tr' s08).trans b9
    have lus : (wV us).length = us.length := List.length_map ..
    -- upto
    refine ⟨_, rfl, _, rfl, _, _, rfl, (Or.inr ⟨_, SqT.of hu9, rfl⟩), _, _, rfl, rfl, .inl ⟨by decide, by decide⟩, ?_⟩
    refine ⟨st, c, ns, _, rfl, dr9, hns, (by rw [lus]; omega), (by rw [lus]; omega), fun up H10 hup0 hup1 dr10 b10 => ?_⟩
    have hu10 := b10 _ _ hu9 nu
    have hF10 := b10 _ _ hF9 nF
    have bb10 : But st H H10 := bb9.trans b10
    -- the number of turns
    refine ⟨_, rfl, _, rfl, st, c, ns, 3, rfl, dr10, hns, (by decide), (by decide), fun d3 H11 hd0 hd3 dr11 b11 => ?_⟩
    have hu11 := b11 _ _ hu10 nu
    have hF11 := b11 _ _ hF10 nF
    have bb11 : But st H H11 := bb10.trans b11
    refine ⟨_, rfl, _, _, rfl, rfl, .inr ⟨_, rfl, _, _, rfl, rfl, .inl ⟨by omega, by omega⟩, _, _, rfl, rfl, _, rfl, ?_⟩⟩
    generalize hN : ((n : Nat) : Int) - d3 * (if decide (2 < ((n : Nat) : Int)) = true then 1 else 0) = N
    have hN8 : N ≤ 8 := by
      subst hN
      split <;> omega
    have hN0 : -10 ≤ N := by
      subst hN
      split <;> omega
    refine ⟨(by omega), (by omega), ?_⟩
    refine for_range (lo := 0) (n := N.toNat) (fun i σ H2 => But st H H2 ∧ Drw H2 st c ns ∧ H2 u = some (.tup (wV us)) ∧ ∃ (sc : List Wd) (v7 v8 v9 : Option V), sc.length = i ∧ okAll sc ∧ H2 F = some (.lst (wV sc)) ∧
      σ = [some (.ref st), some (.int (n : Int)), some (.ref F), some (.bl (flg sc i).1), some (.bl (flg sc i).2), some (.ref u), some (.int up), v7, v8, v9]) ?_ ?_ ?_
    · exact ⟨bb11, dr11, hu11, [], _, _, _, rfl, fun n v e => by simp at e, hF11, rfl⟩
    · rintro i σ H2 hi ⟨bH, drH, huH, sc, v7, v8, v9, hsc, hok, hFH, rfl⟩
      generalize ho : (flg sc i).1 = o
      generalize hrd : (flg sc i).2 = r
      rw [show (0 : Int) + (i : Nat) = ((i : Nat) : Int) by omega]
      -- some
      have hat : atI [V.str (Str.ofString "start"), .str (Str.ofString "stop")] (if r = true then 1 else 0) = some (.str (wS (if r then .sto else .sta))) := by cases r <;> rfl
      refine ⟨(by show 2 ≤ sizeLine; decide), fun P1 nP1 => ?_⟩
      generalize hP1 : upd H2 P1 _ = H3
      have t1 : Same H2 H3 := hP1 ▸ Same.new nP1
      have f1 : H3 P1 = some (.tup [.str (Str.ofString "start"), .str (Str.ofString "stop")]) := hP1 ▸ upd_same
      clear hP1
      refine ⟨_, rfl, .inr ⟨_, rfl, _, _, _, _, rfl, rfl, SqT.of f1, hat, ?_⟩⟩
      refine ⟨(by show 3 ≤ sizeLine; decide), fun P2 nP2 => ?_⟩
      generalize hP2 : upd H3 P2 _ = H4
      have t2 : Same H3 H4 := hP2 ▸ Same.new nP2
      have f2 : H4 P2 = some (.lst (wV [.rea, .wri, if r then .sto else .sta])) := hP2 ▸ upd_same
      clear hP2
      have t12 : Same H2 H4 := Same.tr t1 t2
      refine ⟨fun σ' H5 => Same H2 H5 ∧ ∃ P3, P3 ≠ st ∧ H5 P3 = some (.lst (wV (someW o r))) ∧ σ' = [some (.ref st), some (.int (n : Int)), some (.ref F), some (.bl o), some (.bl r), some (.ref u), some (.int up), some (.int (i : Int)), some (.ref P3), v9], ?_, ?_⟩
      · refine ⟨_, rfl, _, rfl, ?_⟩
        cases o
        · refine iteF ?_
          refine ⟨_, rfl, (by show 4 ≤ sizeLine; decide), fun P4 nP4 => ?_⟩
          generalize hP4 : upd H4 P4 _ = H5
          have t4 : Same H4 H5 := hP4 ▸ Same.new nP4
          have f4 : H5 P4 = some (.lst [.str (Str.ofString "begin"), .str (Str.ofString "begin"), .str (Str.ofString "immediate"), .str (Str.ofString "exclusive")]) := hP4 ▸ upd_same
          clear hP4
          refine ⟨_, _, _, _, rfl, rfl, t4 _ _ f2, f4, (by show 3 + 4 ≤ sizeLine; decide), fun P5 m5 => ?_⟩
          have t5 := Same.tr t12 t4
          exact ⟨Same.tr t5 (same_new m5), P5, (drH.same t5).nst m5, by rw [upd_same]; cases r <;> rfl, rfl⟩
        · refine iteT ?_
          refine ⟨_, rfl, (by show 5 ≤ sizeLine; decide), fun P4 nP4 => ?_⟩
          generalize hP4 : upd H4 P4 _ = H5
          have t4 : Same H4 H5 := hP4 ▸ Same.new nP4
          have f4 : H5 P4 = some (.lst [.str (Str.ofString "commit"), .str (Str.ofString "rollback"), .str (Str.ofString "read"), .str (Str.ofString "write"), .str (Str.ofString "commit")]) := hP4 ▸ upd_same
          clear hP4
          refine ⟨_, _, _, _, rfl, rfl, t4 _ _ f2, f4, (by show 3 + 5 ≤ sizeLine; decide), fun P5 m5 => ?_⟩
          have t5 := Same.tr t12 t4
          exact ⟨Same.tr t5 (same_new m5), P5, (drH.same t5).nst m5, by rw [upd_same]; cases r <;> rfl, rfl⟩
      rintro σ' H5 ⟨t5, P3, nP3, hP3, rfl⟩
      have lsome : (wV (someW o r)).length ≤ 10 ∧ 0 < (wV (someW o r)).length := by cases o <;> cases r <;> decide
      -- word
      refine ⟨_, rfl, _, rfl, st, c, P3, ns, _, rfl, drH.same t5, hns, nP3, .inl (SqL.of hP3), lsome.2, (by omega), fun x H6 hx dr6 b6 => ?_⟩
      obtain ⟨v0, hv0, rfl⟩ := List.mem_map.mp hx
      have hu6 := b6 _ _ (t5 _ _ huH) nu
      have hF6 := b6 _ _ (t5 _ _ hFH) nF
      have hP6 := b6 _ _ hP3 nP3
      have bH6 : But st H H6 := (bH.tr' t5).trans b6
      refine ⟨fun σ' H7 => H7 = H6 ∧ ∃ v ∈ someW o r, σ' = [some (.ref st), some (.int (n : Int)), some (.ref F), some (.bl o), some (.bl r), some (.ref u), some (.int up), some (.int (i : Int)), some (.ref P3), some (.str (wS v))], ?_, ?_⟩
      · refine ⟨_, rfl, _, rfl, _, rfl, _, _, rfl, (Or.inr ⟨_, SqT.of hu6, rfl⟩), _, _, rfl, _, _, rfl, rfl, _, rfl, ?_⟩
        refine ite2 (fun hk => ?_) (fun hk => ⟨rfl, v0, hv0, rfl⟩)
        have hk2 : i < us.length := by
          have := of_decide_eq_true hk
          rw [lus] at this
          split at this <;> omega
        have hat2 : (wV us)[i]? = some (.str (wS us[i])) := by
          unfold wV
          rw [List.getElem?_map, List.getElem?_eq_getElem hk2]
          rfl
        refine ⟨_, rfl, _, rfl, _, _, _, _, rfl, rfl, SqT.of hu6, atI_nat hat2, _, rfl, _, _, rfl, .inl (SqL.of hP6), rfl, flat_words _, _, rfl, ?_⟩
        refine ite2 (fun hin => ?_) (fun hin => ⟨rfl, v0, hv0, rfl⟩)
        exact ⟨_, rfl, _, rfl, _, _, _, _, rfl, rfl, SqT.of hu6, atI_nat hat2, rfl, us[i], in_words hin, rfl⟩
      rintro σ' H7 ⟨rfl, v, hv, rfl⟩
      -- found.append
      refine ⟨_, rfl, .inl ⟨rfl, _, SqL.of hF6⟩, _, rfl, _, _, _, rfl, rfl, hF6, (by show (List.map _ sc).length < sizeLine; rw [List.length_map]; exact small6 (by omega)), ?_⟩
      have dr7 : Drw (upd H7 F (.lst (wV sc ++ [.str (wS v)]))) st c ns := by
        have nc : c ≠ F := ne_of_none dr.1 hF
        obtain ⟨hc, n', v', b', h0', hs⟩ := dr6
        exact ⟨by rw [upd_ne nc]; exact hc, n', v', b', h0', by rw [upd_ne (Ne.symm nF)]; exact hs⟩
      have bH7 : But st H (upd H7 F (.lst (wV sc ++ [.str (wS v)]))) := fun b u' e nb => by
        rw [upd_ne (ne_of_none e hF)]
        exact bH6 b u' e nb
      have hu7 : (upd H7 F (.lst (wV sc ++ [.str (wS v)]))) u = some (.tup (wV us)) := by
        rw [upd_ne (ne_of hu6 hF6 (by intro z; cases z))]
        exact hu6
      have hF7 : (upd H7 F (.lst (wV sc ++ [.str (wS v)]))) F = some (.lst (wV (sc ++ [v]))) := by
        rw [upd_same]
        unfold wV
        rw [List.map_append]
        rfl
      generalize upd H7 F (.lst (wV sc ++ [.str (wS v)])) = H8 at dr7 bH7 hu7 hF7 ⊢
      dsimp only
      refine seq_asg_gv (x := .bl (bO v o)) (Gv.and (fun Q' kk => ?_) (fun H1 s1 => Gv.or (fun Q' kk => ⟨_, rfl, kk _ (Same.rfl' _)⟩) (fun H2 s2 Q' kk => ?_))) ?_
      · refine ⟨_, rfl, (by show 2 ≤ sizeLine; decide), fun tp htp => ?_⟩
        have sx := same_new (o := .tup [.str (Str.ofString "commit"), .str (Str.ofString "rollback")]) htp
        have ex := upd_same (H := H8) (a := tp) (o := .tup [.str (Str.ofString "commit"), .str (Str.ofString "rollback")])
        refine ⟨_, _, rfl, .inr (SqT.of ex), rfl, rfl, ?_⟩
        rw [in_en v]
        exact kk _ sx
      · refine ⟨_, rfl, (by show 3 ≤ sizeLine; decide), fun tp htp => ?_⟩
        have sx := same_new (o := .tup [.str (Str.ofString "begin"), .str (Str.ofString "immediate"), .str (Str.ofString "exclusive")]) htp
        have ex := upd_same (H := H2) (a := tp) (o := .tup [.str (Str.ofString "begin"), .str (Str.ofString "immediate"), .str (Str.ofString "exclusive")])
        refine ⟨_, _, rfl, .inr (SqT.of ex), rfl, rfl, ?_⟩
        rw [in_op v]
        exact kk _ sx
      intro H12 s12
      dsimp only [gName]
      refine asg_gv (x := .bl (bR v r)) (Gv.and (fun Q' kk => ?_) (fun H1 s1 => Gv.or (fun Q' kk => ⟨_, rfl, kk _ (Same.rfl' _)⟩) (fun H2 s2 Q' kk => ?_))) ?_
      · refine ⟨_, rfl, rfl, ?_⟩
        rw [show decide (V.str (wS v) = V.str (Str.ofString "stop")) = decide (v = .sto) from eqW v .sto]
        exact kk _ (Same.rfl' _)
      · refine ⟨_, rfl, rfl, ?_⟩
        rw [show decide (V.str (wS v) = V.str (Str.ofString "start")) = decide (v = .sta) from eqW v .sta]
        exact kk _ (Same.rfl' _)
      intro H13 s13
      have s14 : Same H8 H13 := Same.tr s12 s13
      have hfl : flg (sc ++ [v]) (i + 1) = (bO v o, bR v r) := by
        have := flg_succ (sc := sc ++ [v]) (p := i) (v := v) (by rw [← hsc]; simp)
        rw [this, flg_app sc [v] (by omega), ho, hrd, bO_is, bR_is]
      refine ⟨bH7.tr' s14, dr7.same s14, s14 _ _ hu7, sc ++ [v], some (.int (i : Int)), some (.ref P3), some (.str (wS v)), by rw [List.length_append, hsc]; rfl, hok.snoc (by rw [hsc, ho, hrd]; exact some_ok hv), s14 _ _ hF7, ?_⟩
      rw [hfl]
      rfl
    · rintro σ H2 ⟨bH, drH, huH, sc, v7, v8, v9, hsc, hok, hFH, rfl⟩
      refine ⟨_, rfl, _, _, rfl, .inl ⟨SqL.of hFH, fun q hq => ?_⟩⟩
      have nq := drH.nst hq
      exact k sc q _ ⟨by omega, hok⟩ (bH.free nq hq) upd_same (drH.new hq) (bH.new hq)
end
end C78

set_option Elab.async false
set_option maxRecDepth 100000
set_option maxHeartbeats 4000000
set_option linter.all false
namespace C78
open PySem L2 My M78
abbrev sScripts : Stmt := top 32
abbrev nScripts : List Str := ["_law_state", "_law_most", "_law_many", "_law_k"]
theorem scScripts : FnScope nScripts ["_law_state", "_law_most", "_law_many"] (defScope sScripts) := ⟨rfl, rfl, rfl, by decide +kernel, rfl, by decide +kernel, by decide +kernel⟩
section
variable {P : Program} {w : World} {K : PySem.W.Frag} {mg : Str → Option Value} {base : Heap}

def spScripts : Sp := fun vs H Q _ => ∃ (st c : Addr) (ns : List Int) (most n : Nat), vs = [.ref st, .int (most : Int), .int (n : Int)] ∧ Drw H st c ns ∧ ns.length ≤ 63 ∧ n ≤ 8 ∧ 0 < most ∧ most ≤ 4 ∧
  ∀ (ss : List (List Wd)) (q : Addr) (H' : Hp), 1 ≤ ss.length → ss.length ≤ most → (∀ sc ∈ ss, okScr sc) → At st H' (.ref q) (scD ss) → Drw H' st c ns → But st H H' → Q (.ref q) H'
theorem pr_scripts (D : Df K mg "_law_scripts" sScripts ["_law_state", "_law_most", "_law_many"]) (T2 : Ty mg) (TR : mg "range" = none) (PT : Pr P w K mg base 2 "_law_take" ["_law_state", "_law_many"] spTake) (PS : Pr P w K mg base 4 "_law_script" ["_law_state", "_law_many"] spScript) :
    Pr P w K mg base 5 "_law_scripts" ["_law_state", "_law_most", "_law_many"] spScripts := by
  refine D.pr scScripts (fun vs H Q E h => ?_) (fun f cdv A outer s H vs Q E hr h => ?_)
  · obtain ⟨st, c, ns, most, n, rfl, _⟩ := h
    rfl
  · obtain ⟨st, c, ns, most, n, rfl, dr, hns, hn8, hm0, hm4, k⟩ := h
    have nd := scScripts.nd
    have hr2 := hr.mono (show 2 ≤ 4 by decide)
    refine ⟨_, (pss_one (ps_ret (pe_callTy call_tuple_of (by rfl) T2.tuple (by decide +kernel) (pa_cons (pe_lc (own := [("_law_k", 3)]) (g := gName 3) (tt := tYes) (by rfl) nd (pi_range1 rfl TR (pa_cons (pe_op op_add pe_int (pe_callP PT hr2 (by rfl) (pa_cons (pv 0) (pa_cons (pv 1) pa_nil)))) pa_nil))
  (blkOk_by (own := [("_law_k", 3)]) (N := nScripts) (sc := defScope sScripts) (by decide +kernel))
  (fun _ _ _ _ _ => pg_name (i := 3) nd rfl (Or.inl rfl) (Or.inr rfl)) (fun _ _ _ _ _ => pts_nil)
  (fun _ _ _ _ _ => (pe_callP PS hr (by rfl) (pa_cons (pv 0) (pa_cons (pv 2) pa_nil))))) pa_nil)))), ?_⟩
    refine ⟨_, rfl, _, rfl, st, c, ns, most, rfl, dr, hns, (by omega), (by omega), fun d H1 hd0 hd1 dr1 b1 => ?_⟩
    refine ⟨_, _, rfl, rfl, _, rfl, (by omega), (by omega), fun Dl hD => ?_⟩
    obtain ⟨o, hst⟩ := dr1.at
    refine lc_range (lo := 0) (n := ((1 : Int) + d).toNat) (fun i H2 => But st H1 H2 ∧ Drw H2 st c ns ∧ ∃ (ss : List (List Wd)) (vs : List V), ss.length = i ∧ (∀ sc ∈ ss, okScr sc) ∧ Bld st Dl H2 vs (ss.map fun sc => .tuple (scE sc))) ?_ ?_ ?_
    · exact ⟨(But.refl st H1).new hD, dr1.new hD, [], [], rfl, (fun _ h => nomatch h), Bld.start hst hD⟩
    · rintro i H2 hi ⟨b2, dr2, ss, vs, ls, oks, bl⟩
      refine ⟨rfl, ?_⟩
      refine ⟨_, rfl, _, rfl, st, c, ns, n, rfl, dr2, hns, hn8, fun sc q H3 hsc nq hq dr3 b3 => ?_⟩
      have bl3 := bl.but b3
      have nqs : q ≠ st := dr2.nst nq
      have nqD : q ≠ Dl := fun z => by
        rw [z, bl.2.1] at nq
        cases nq
      refine ⟨vs, bl3.2.1, ?_, ?_, ?_, ss ++ [sc], vs ++ [.ref q], by rw [List.length_append, ls]; rfl, ?_, ?_⟩
      · rw [bl.len, List.length_map, ls]
        exact small6 (by omega)
      · intro b u e nb
        rw [upd_ne (ne_of_none e hD)]
        exact b3 _ _ (b2 _ _ e nb) nb
      · obtain ⟨hc, n', v', b', h0', hs⟩ := dr3
        exact ⟨by rw [upd_ne (ne_of_none dr1.1 hD)]; exact hc, n', v', b', h0', by rw [upd_ne (Ne.symm bl.1)]; exact hs⟩
      · intro x hx
        rcases List.mem_append.mp hx with h | h
        · exact oks x h
        · rw [List.mem_singleton.mp h]
          exact hsc
      · rw [List.map_append]
        exact bl3.push (.tup nqs hq (at_words sc)) (.tup nqD hq (at_words sc))
    · rintro H2 ⟨b2, dr2, ss, vs, ls, oks, bl⟩
      refine ⟨_, _, rfl, .inl ⟨SqL.of bl.2.1, fun q hq => ?_⟩⟩
      obtain ⟨o2, hst2⟩ := dr2.at
      exact k ss q _ (by omega) (by omega) oks (bl.tup hst2 hq) (dr2.new hq) ((b1.trans b2).new hq)
end
end C78

set_option Elab.async false
set_option maxRecDepth 100000
set_option maxHeartbeats 4000000
set_option linter.all false
namespace C78
open PySem L2 My M78
abbrev sHanded : Stmt := top 38
abbrev nHanded : List Str := ["_law_state", "_law_thing", "_law_parts", "_law_part"]
theorem scHanded : FnScope nHanded ["_law_state", "_law_thing"] (defScope sHanded) := ⟨rfl, rfl, rfl, by decide +kernel, rfl, by decide +kernel, by decide +kernel⟩

mutual
/-- the same thing, each list or tuple in it a list or a tuple -/
inductive Hnd : PyData → PyData → Prop
  | leaf {d : PyData} : lt2 d = false → Hnd d d
  | seq {d d' : PyData} {ds ds' : List PyData} : Sq2 d ds → Sq2 d' ds' → HndAll ds ds' → Hnd d d'
inductive HndAll : List PyData → List PyData → Prop
  | nil : HndAll [] []
  | cons {d d' : PyData} {ds ds' : List PyData} : Hnd d d' → HndAll ds ds' → HndAll (d :: ds) (d' :: ds')
end
theorem HndAll.snoc : ∀ {ds ds' : List PyData} {d d' : PyData}, HndAll ds ds' → Hnd d d' → HndAll (ds ++ [d]) (ds' ++ [d'])
  | _, _, _, _, .nil, h => .cons h .nil
  | _, _, _, _, .cons h q, e => .cons h (HndAll.snoc q e)
theorem HndAll.len : ∀ {ds ds' : List PyData}, HndAll ds ds' → ds'.length = ds.length
  | _, _, .nil => rfl
  | _, _, .cons _ q => by rw [List.length_cons, List.length_cons, HndAll.len q]
theorem leaf_any {m z : Addr} {H H' : Hp} {x : V} {d : PyData} (h : At m H x d) (l : lt2 d = false) : At z H' x d := by
  cases h with
  | non => exact .non
  | bl b => exact .bl b
  | int i => exact .int i
  | str s => exact .str s
  | lst _ _ _ => cases l
  | tup _ _ _ => cases l
theorem lev_sq {n : Nat} {d : PyData} {ds : List PyData} (h : Lev n d) (s : Sq2 d ds) : ∃ n', n = n' + 1 ∧ ds.length ≤ 1000000 ∧ ∀ x, x ∈ ds → Lev n' x := by
  rcases s with rfl | rfl
  · cases h with
    | lst a b => exact ⟨_, rfl, a, b⟩
  · cases h with
    | tup a b => exact ⟨_, rfl, a, b⟩
theorem lt2_sq {d : PyData} (h : lt2 d = true) : ∃ ds, Sq2 d ds := by
  cases d <;> first | exact ⟨_, .inl rfl⟩ | exact ⟨_, .inr rfl⟩ | cases h
section
variable {P : Program} {w : World} {K : PySem.W.Frag} {mg : Str → Option Value} {base : Heap}

def spHanded (n : Nat) : Sp := fun vs H Q _ => ∃ (st c : Addr) (ns : List Int) (x : V) (d : PyData), vs = [.ref st, x] ∧ Drw H st c ns ∧ ns.length ≤ 63 ∧ At st H x d ∧ Lev n d ∧
  ∀ (y : V) (d' : PyData) (H' : Hp), Hnd d d' → (∀ z o, H z = some o → At z H' y d') → Drw H' st c ns → But st H H' → Q y H'
def spH : Nat → Sp
  | 0 => fun _ _ _ _ => False
  | n + 1 => spHanded n
theorem step_handed (D : Df K mg "_law_handed" sHanded ["_law_state", "_law_thing"]) (T : Ty mg) (PT : Pr P w K mg base 2 "_law_take" ["_law_state", "_law_many"] spTake) {n : Nat} (PH : Pr P w K mg base (n + 2) "_law_handed" ["_law_state", "_law_thing"] (spH n)) :
    Pr P w K mg base (n + 3) "_law_handed" ["_law_state", "_law_thing"] (spHanded n) := by
  refine D.pr scHanded (fun vs H Q E h => ?_) (fun f cdv A outer s H vs Q E hr h => ?_)
  · obtain ⟨st, c, ns, x, d, rfl, _⟩ := h
    rfl
  · obtain ⟨st, c, ns, x, d, rfl, dr, hns, ax, lv, k⟩ := h
    have nd := scHanded.nd
    have hr2 := hr.mono (show 2 ≤ n + 2 by omega)
    refine ⟨_, (pss_cons (ps_if (pt_not (pt_val (pe_callB call_isiT (by rfl) T.isinstance (by decide +kernel) (pa_cons (pv 1) (pa_cons (pe_tup (pa_cons (pe_bltn (v := .ty "list") (by rfl) T.list (by decide +kernel) rfl) (pa_cons (pe_bltn (v := .ty "tuple") (by rfl) T.tuple (by decide +kernel) rfl) pa_nil))) pa_nil)))))
        (pss_one (ps_ret (pv 1)))
        pss_nil)
      (pss_cons (ps_setLc (i := 2) (own := [("_law_part", 3)]) (g := gName 3) (tt := tYes) (by rfl) nd rfl rfl (sw_true rfl rfl rfl (by decide +kernel)) (pi_sq (pv 1))
  (blkOk_by (own := [("_law_part", 3)]) (N := nHanded) (sc := defScope sHanded) (by decide +kernel))
  (fun _ _ _ _ _ => pg_name (i := 3) nd rfl (Or.inl rfl) (Or.inr rfl)) (fun _ _ _ _ _ => pts_nil)
  (fun _ _ _ _ _ => (pe_callP PH hr (by rfl) (pa_cons (pv 0) (pa_cons (pv 3) pa_nil)))))
      (pss_one (ps_ret (pe_ix ix_list (pe_lst (pa_cons (pv 2) (pa_cons (pe_callTy call_tuple_of (by rfl) T.tuple (by decide +kernel) (pa_cons (pv 2) pa_nil)) pa_nil))) (pe_callP PT hr2 (by rfl) (pa_cons (pv 0) (pa_cons pe_int pa_nil))) (fun _ _ => rfl)))))), ?_⟩
    refine ⟨_, rfl, (by show 2 ≤ sizeLine; decide), fun tp ntp => ?_⟩
    generalize htp : upd H tp _ = H1
    have stp : Same H H1 := htp ▸ Same.new ntp
    have etp : H1 tp = some (.tup [.ty "list", .ty "tuple"]) := htp ▸ upd_same
    clear htp
    have ax1 := ax.mono (Same.but (m := st) stp)
    refine ⟨_, _, _, _, _, lt2 d, rfl, etp, cls_all ["list", "tuple"], ax1.ty, kit_any ?_, ?_⟩
    · cases ax
      · exact k_NoneType_lt
      · exact k_bool_lt
      · exact k_int_lt
      · exact k_str_lt
      · exact k_list_lt
      · exact k_tuple_lt
    refine ⟨_, rfl, ?_⟩
    cases hlt : lt2 d
    · refine iteT ⟨_, rfl, k x d _ (.leaf hlt) (fun z o _ => leaf_any ax hlt) (dr.same stp) (Same.but stp)⟩
    refine iteF ?_
    obtain ⟨ds, sq⟩ := lt2_sq hlt
    obtain ⟨n', rfl, lds, lev⟩ := lev_sq lv sq
    obtain ⟨a, us, rfl, na, hsq, aus⟩ := sq.at ax1
    have lus : us.length = ds.length := aus.length
    have dr1 := dr.same stp
    refine isq (a := a) (us := us) (fun Q q => ⟨_, rfl, q⟩) hsq (fun J G W hG => fun Dl hD => ?_)
    have nD : Dl ≠ st := dr1.nst hD
    refine lc_it W (fun i H2 => But st H1 H2 ∧ Drw H2 st c ns ∧ ∃ (vs : List V) (es : List PyData), HndAll (ds.take i) es ∧ H2 Dl = some (.lst vs) ∧ AtAll Dl H2 vs es ∧ ∀ z o, H1 z = some o → AtAll z H2 vs es) ?_ ?_ ?_ ?_
    · exact ⟨(But.refl st H1).new hD, dr1.new hD, [], [], .nil, upd_same, .nil, fun _ _ _ => .nil⟩
    · rintro i H2 _ ⟨b2, _⟩
      exact hG _ (fun o e => b2 _ _ e na)
    · rintro i y H9 H2 hi ⟨b2, dr2, vs, es, hes, hl, aD, aZ⟩ ⟨rfl, er⟩
      obtain ⟨de, e1, ae⟩ := aus.get er
      have ld : Lev n' de := lev de (List.mem_of_getElem? e1)
      refine ⟨rfl, ?_⟩
      refine ⟨_, rfl, _, rfl, ?_⟩
      refine ⟨st, c, ns, y, de, rfl, dr2, hns, ae.mono b2, ld, fun y' d' H3 hh hz dr3 b3 => ?_⟩
      obtain ⟨o1, hst1⟩ := dr1.at
      obtain ⟨o2, hst2⟩ := dr2.at
      have aS2 := aZ _ _ hst1
      have hl3 := b3 _ _ hl nD
      have lvs : vs.length = i := by
        rw [aD.length, hes.len, List.length_take]
        omega
      have aD3 : AtAll Dl H3 (vs ++ [y']) (es ++ [d']) := (aD.but2 (But2.ofM b3).swap aS2).append (hz _ _ hl)
      have aZ3 : ∀ z o, H1 z = some o → AtAll z H3 (vs ++ [y']) (es ++ [d']) := fun z o hz1 => by
        refine ((aZ z o hz1).but2 (But2.ofM b3).swap aS2).append ?_
        by_cases hzs : z = st
        · subst hzs
          exact hz _ _ hst2
        · exact hz _ _ (b2 _ _ hz1 hzs)
      refine ⟨vs, hl3, (by rw [lvs]; exact Nat.lt_of_lt_of_le (show i < 1000000 by omega) (by decide)), ?_, ?_, vs ++ [y'], es ++ [d'], ?_, upd_same, ?_, ?_⟩
      · intro b u e nb
        rw [upd_ne (ne_of_none e hD)]
        exact b3 _ _ (b2 _ _ e nb) nb
      · obtain ⟨hc, n', v', b', h0', hs⟩ := dr3
        exact ⟨by rw [upd_ne (ne_of_none dr1.1 hD)]; exact hc, n', v', b', h0', by rw [upd_ne (Ne.symm nD)]; exact hs⟩
      · rw [take_succ' e1]
        exact hes.snoc hh
      · exact aD3.but2 (fun x u e n1 _ => by rw [upd_ne n1]; exact e) aD3
      · intro z o hz1
        exact (aZ3 z o hz1).but2 But2.upd aD3
    · rintro H2 ⟨b2, dr2, vs, es, hes, hl, aD, aZ⟩
      rw [lus, List.take_length] at hes
      have bb2 : But st H H2 := (Same.but stp).trans b2
      refine ⟨_, rfl, _, rfl, _, _, rfl, .inl ⟨SqL.of hl, fun q hq => ?_⟩⟩
      have s3 := same_new (o := .tup vs) hq
      have e3 : upd H2 q (.tup vs) q = some (.tup vs) := upd_same
      generalize upd H2 q (.tup vs) = H3 at s3 e3 ⊢
      refine ⟨(by show 2 ≤ sizeLine; decide), fun L nL => ?_⟩
      generalize hL : upd H3 L _ = H4
      have sL : Same H3 H4 := hL ▸ Same.new nL
      have eL : H4 L = some (.lst [.ref Dl, .ref q]) := hL ▸ upd_same
      clear hL
      have s4 := Same.tr s3 sL
      refine ⟨_, rfl, st, c, ns, 2, rfl, dr2.same s4, hns, (by decide), (by decide), fun j H5 hj0 hj2 dr5 b5 => ?_⟩
      have b25 : But st H2 H5 := (Same.but s4).trans b5
      have nL : L ≠ st := (dr2.same s3).nst nL
      have nq : q ≠ st := dr2.nst hq
      have bb5 := bb2.trans b25
      obtain ⟨o1, hst1⟩ := dr1.at
      have aS2 := aZ _ _ hst1
      have up : ∀ z o, H z = some o → AtAll z H5 vs es ∧ z ≠ Dl ∧ z ≠ q := fun z o hz => by
        have hz1 := stp _ _ hz
        refine ⟨(aZ z o hz1).but2 (But2.ofM b25).swap aS2, ne_of_none hz1 hD, ?_⟩
        by_cases hzs : z = st
        · rw [hzs]
          exact Ne.symm nq
        · exact ne_of_none (b2 _ _ hz1 hzs) hq
      rcases (show j = 0 ∨ j = 1 by omega) with rfl | rfl
      · refine ⟨_, _, _, _, rfl, rfl, SqL.of (b5 _ _ eL nL), rfl, ?_⟩
        exact k _ (.list es) _ (.seq sq (.inl rfl) hes) (fun z o hz => .lst (Ne.symm (up z o hz).2.1) (b25 _ _ hl nD) (up z o hz).1) dr5 bb5
      · refine ⟨_, _, _, _, rfl, rfl, SqL.of (b5 _ _ eL nL), rfl, ?_⟩
        exact k _ (.tuple es) _ (.seq sq (.inr rfl) hes) (fun z o hz => .tup (Ne.symm (up z o hz).2.2) (b5 _ _ (sL _ _ e3) nq) (up z o hz).1) dr5 bb5
theorem pr_handed (D : Df K mg "_law_handed" sHanded ["_law_state", "_law_thing"]) (T : Ty mg) (PT : Pr P w K mg base 2 "_law_take" ["_law_state", "_law_many"] spTake) : ∀ n, Pr P w K mg base (n + 2) "_law_handed" ["_law_state", "_law_thing"] (spH n)
  | 0 => by
    obtain ⟨f, fd, F, b, g⟩ := D
    exact ⟨f, fd, ⟨fun _ _ _ _ h => h.elim, fun _ _ _ _ _ _ _ _ _ _ _ _ _ h => h.elim⟩, g, F.kp, b⟩
  | n + 1 => step_handed D T PT (pr_handed D T PT n)
end
end C78

set_option Elab.async false
set_option maxRecDepth 100000
set_option maxHeartbeats 4000000
set_option linter.all false
namespace C78
open PySem L2 My M78
abbrev sOdd : Stmt := top 40
abbrev nOdd : List Str := ["_law_state", "_law_many", "_law_odd"]
theorem scOdd : FnScope nOdd ["_law_state", "_law_many"] (defScope sOdd) := ⟨rfl, rfl, rfl, by decide +kernel, rfl, by decide +kernel, by decide +kernel⟩

/-- no number below n, nor anything that stands in a list of such -/
def OddN (st : Addr) (H : Hp) (n : Nat) (x : V) : Prop := (∃ i, x = .int i ∧ ¬ (0 ≤ i ∧ i < (n : Int))) ∨ (∃ b, x = .bl b) ∨ x = .non ∨ (∃ s, x = .str s) ∨ ∃ a, x = .ref a ∧ a ≠ st ∧ ((∃ xs, H a = some (.tup xs)) ∨ (∃ xs, H a = some (.lst xs)) ∨ ∃ kvs, H a = some (.dK kvs))
theorem OddN.but {st : Addr} {H H' : Hp} {n : Nat} {x : V} (h : OddN st H n x) (b : But st H H') : OddN st H' n x := by
  rcases h with h | h | h | h | ⟨a, e, na, h⟩
  · exact .inl h
  · exact .inr (.inl h)
  · exact .inr (.inr (.inl h))
  · exact .inr (.inr (.inr (.inl h)))
  · refine .inr (.inr (.inr (.inr ⟨a, e, na, ?_⟩)))
    rcases h with ⟨y, h⟩ | ⟨y, h⟩ | ⟨y, h⟩
    · exact .inl ⟨y, b _ _ h na⟩
    · exact .inr (.inl ⟨y, b _ _ h na⟩)
    · exact .inr (.inr ⟨y, b _ _ h na⟩)
section
variable {P : Program} {w : World} {K : PySem.W.Frag} {mg : Str → Option Value} {base : Heap}

def spOdd : Sp := fun vs H Q _ => ∃ (st c : Addr) (ns : List Int) (n : Nat), vs = [.ref st, .int (n : Int)] ∧ Drw H st c ns ∧ ns.length ≤ 63 ∧ 1 ≤ n ∧ n ≤ 4 ∧
  ∀ (x : V) (H' : Hp), OddN st H' n x → Drw H' st c ns → But st H H' → Q x H'
theorem pr_odd (D : Df K mg "_law_odd_number" sOdd ["_law_state", "_law_many"]) (PO : Pr P w K mg base 3 "_law_one" ["_law_state", "_law_things"] (spOne K)) : Pr P w K mg base 4 "_law_odd_number" ["_law_state", "_law_many"] spOdd := by
  refine D.pr scOdd (fun vs H Q E h => ?_) (fun f cdv A outer s H vs Q E hr h => ?_)
  · obtain ⟨st, c, ns, n, rfl, _⟩ := h
    rfl
  · obtain ⟨st, c, ns, n, rfl, dr, hns, hn1, hn4, k⟩ := h
    have nd := scOdd.nd
    refine ⟨_, (pss_cons (ps_asg (pe_lst (pa_cons (pe_un un_neg pe_int) (pa_cons (pv 1) (pa_cons (pe_op op_sub pe_int (pv 1)) (pa_cons (pe_op op_add (pv 1) pe_int) (pa_cons (pe_op op_pow pe_int pe_int) (pa_cons (pe_un un_neg (pe_op op_pow pe_int pe_int)) (pa_cons pe_non (pa_cons pe_bl (pa_cons pe_bl (pa_cons pe_str (pa_cons pe_str (pa_cons (pe_tup (pa_cons pe_int pa_nil)) (pa_cons (pe_lst (pa_cons pe_int pa_nil)) (pa_cons pe_dnewK (pa_cons (pe_tup pa_nil) pa_nil)))))))))))))))) (pg_name (i := 2) nd rfl (Or.inl rfl)))
      (pss_one (ps_ret (pe_callP PO hr (by rfl) (pa_cons (pv 0) (pa_cons (pv 2) pa_nil)))))), ?_⟩
    refine ⟨_, rfl, _, rfl, _, rfl, _, _, rfl, rfl, _, rfl, _, _, rfl, rfl, _, _, rfl, rfl, ⟨by decide, by decide, by decide⟩, _, _, rfl, rfl, ⟨by decide, by decide, by decide⟩, _, rfl, ?_⟩
    refine ⟨(by show 1 ≤ sizeLine; decide), fun A1 nA1 => ?_⟩
    generalize hA1 : upd H A1 _ = H1
    have sA1 : Same H H1 := hA1 ▸ Same.new nA1
    have eA1 : H1 A1 = some (.tup [.int 0]) := hA1 ▸ upd_same
    clear hA1
    refine ⟨(by show 1 ≤ sizeLine; decide), fun A2 nA2 => ?_⟩
    generalize hA2 : upd H1 A2 _ = H2
    have sA2 : Same H1 H2 := hA2 ▸ Same.new nA2
    have eA2 : H2 A2 = some (.lst [.int 0]) := hA2 ▸ upd_same
    clear hA2
    refine fun A3 nA3 => ?_
    generalize hA3 : upd H2 A3 _ = H3
    have sA3 : Same H2 H3 := hA3 ▸ Same.new nA3
    have eA3 : H3 A3 = some (.dK []) := hA3 ▸ upd_same
    refine ⟨(by show 0 ≤ sizeLine; decide), fun A4 nA4 => ?_⟩
    generalize hA4 : upd H3 A4 _ = H4
    have sA4 : Same H3 H4 := hA4 ▸ Same.new nA4
    have eA4 : H4 A4 = some (.tup []) := hA4 ▸ upd_same
    clear hA4
    refine ⟨(by show 15 ≤ sizeLine; decide), fun A5 nA5 => ?_⟩
    generalize hA5 : upd H4 A5 _ = H5
    have sA5 : Same H4 H5 := hA5 ▸ Same.new nA5
    have eA5 : H5 A5 = some (.lst [.int (-1), .int (n : Int), .int (0 - (n : Int)), .int ((n : Int) + 1), .int (10 ^ (20 : Int).toNat), .int (-(10 ^ (20 : Int).toNat)), .non, .bl true, .bl false, .str (Str.ofString "0"), .str (Str.ofString ""), .ref A1, .ref A2, .ref A3, .ref A4]) := hA5 ▸ upd_same
    clear hA5
    have s45 := sA5
    have s35 := Same.tr sA4 s45
    have s25 := Same.tr sA3 s35
    have s15 := Same.tr sA2 s25
    have s05 := Same.tr sA1 s15
    refine ⟨_, rfl, _, rfl, st, c, A5, ns, _, rfl, dr.same s05, hns, (dr.same (Same.tr sA1 (Same.tr sA2 (Same.tr sA3 sA4)))).nst nA5, .inl (SqL.of eA5), (by show 0 < 15; decide), (by show 15 ≤ 10000; decide), fun x H6 hx dr6 b6 => ?_⟩
    refine k x _ (OddN.but (H := H5) ?_ b6) dr6 ((Same.but s05).trans b6)
    have big : (10 : Int) ^ (20 : Int).toNat = 100000000000000000000 := by decide
    rw [big] at hx
    simp only [List.mem_cons, List.not_mem_nil, or_false] at hx
    rcases hx with rfl | rfl | rfl | rfl | rfl | rfl | rfl | rfl | rfl | rfl | rfl | rfl | rfl | rfl | rfl
    · exact .inl ⟨_, rfl, by omega⟩
    · exact .inl ⟨_, rfl, by omega⟩
    · exact .inl ⟨_, rfl, by omega⟩
    · exact .inl ⟨_, rfl, by omega⟩
    · exact .inl ⟨_, rfl, by omega⟩
    · exact .inl ⟨_, rfl, by omega⟩
    · exact .inr (.inr (.inl rfl))
    · exact .inr (.inl ⟨_, rfl⟩)
    · exact .inr (.inl ⟨_, rfl⟩)
    · exact .inr (.inr (.inr (.inl ⟨_, rfl⟩)))
    · exact .inr (.inr (.inr (.inl ⟨_, rfl⟩)))
    · exact .inr (.inr (.inr (.inr ⟨A1, rfl, dr.nst nA1, .inl ⟨_, s15 _ _ eA1⟩⟩)))
    · exact .inr (.inr (.inr (.inr ⟨A2, rfl, (dr.same sA1).nst nA2, .inr (.inl ⟨_, s25 _ _ eA2⟩)⟩)))
    · exact .inr (.inr (.inr (.inr ⟨A3, rfl, (dr.same (Same.tr sA1 sA2)).nst nA3, .inr (.inr ⟨_, s35 _ _ eA3⟩)⟩)))
    · exact .inr (.inr (.inr (.inr ⟨A4, rfl, (dr.same (Same.tr sA1 (Same.tr sA2 sA3))).nst nA4, .inl ⟨_, s45 _ _ eA4⟩⟩)))
end
end C78

set_option Elab.async false
set_option maxRecDepth 100000
set_option maxHeartbeats 4000000
set_option linter.all false
/-! Exceptions of own classes over Exception whose __init__ stores one field: made and held as a value, raised, asked. -/
namespace PySem
namespace MyX
open Builtin Builtin.ObjectAttr HandSPX
abbrev xTail : List Value := [.type "Exception", .type "BaseException", .type "object"]
/-- own classes, then Exception's mro -/
def refsX : List Value → Bool
  | .ref _ :: r => refsX r
  | l => l == xTail
theorem refsX_cases (l : List Value) (e : refsX l = true) : (∃ c r, l = .ref c :: r ∧ refsX r = true) ∨ l = xTail := by
  cases l with
  | nil => exact .inr (beq_iff_eq.mp e)
  | cons a r =>
    cases a with
    | ref c => exact .inl ⟨c, r, rfl, e⟩
    | _ => exact .inr (beq_iff_eq.mp e)
theorem refsX_pass (self : Value) : ∀ l : List Value, refsX l = true → refuseLoop self "__setattr__" l = pure () := by
  intro l
  induction l with
  | nil => exact fun e => absurd e (by decide)
  | cons a r ih =>
    intro e
    rcases refsX_cases _ e with ⟨c, r', q, h⟩ | q
    · injection q with q1 q2
      subst q1 q2
      rw [refuseLoop_ref]
      exact ih h
    · rw [q]
      exact F.store_Exception.passes self
theorem refsX_has (X : String) : ∀ l : List Value, refsX l = true → l.contains (.type X) = xTail.contains (.type X) := by
  intro l
  induction l with
  | nil => exact fun e => absurd e (by decide)
  | cons a r ih =>
    intro e
    rcases refsX_cases _ e with ⟨c, r', q, h⟩ | q
    · injection q with q1 q2
      subst q1 q2
      rw [List.contains_cons, ih h]
      rfl
    · rw [q]
theorem refsX_ne {l : List Value} (e : refsX l = true) : l.isEmpty = false := by
  cases l with
  | nil => exact absurd e (by decide)
  | cons _ _ => rfl
section
variable {prog : Program} {w : World} {A : Around} {E : Value → Shared → Prop} {R : Result → Shared → Prop} {hp : Heap} {g : Array GenState} {d : Drawn} {t : Nat} {os : OsState}
theorem x_osa {K : W.Frag} {name : Str} {tk : Tok} {v : Value} {x C : Addr} {fv : Array Value} {cd : ClassData}
    (X : K.In hp) (hx : hp.get? x = some { cls := .ref C, data := .fields fv }) (hcd : W.clsIn K C = some cd) (hm : refsX cd.mro = true) (hh : cd.hasDict = true) (ha : W.findIn K (.ref C) name = some none)
    (hq : ∀ h' tk' dx, (∀ b o, b ≠ x → hp.get? b = some o → h'.get? b = some o) → hp.objs.size ≤ dx → dx ≠ x → h'.get? x = some { cls := .ref C, dict := some dx, data := .fields fv } →
      h'.Ns1 dx (fun y => if y = name then some v else none) → R (.ok (.ret .none)) ⟨h', g, d, tk', os⟩) :
    codeAny (model prog w) A (.call (.builtin "object.__setattr__") ⟨[.ref x, .str name tk, v], []⟩) R ⟨hp, g, d, t, os⟩ := by
  have ia : W.InstAt hp x { cls := .ref C, data := .fields fv } C none := ⟨hx, rfl, rfl, trivial⟩
  have SF := F.store_object
  have n0 := refsX_ne hm
  have h0 : cd.mro.contains (.type "object") = true := (refsX_has "object" _ hm).trans (by decide +kernel)
  have nx : x ≠ hp.objs.size := Nat.ne_of_lt (Heap.lt_size hx)
  have sb : W.Looks (model prog w) hp (isInstance (.ref x) (.type "object")) true :=
    ia.type.andThen (W.looks_mroIn X (by unfold W.mroIn; rw [hcd, Option.bind_some, if_neg (by rw [n0]; decide), h0]))
  refine codeAny_call_builtin SF.slot.plain SF.entry (@W.check_slot (model prog w) _ _ ⟨hp, g, d, t, os⟩ "object.__setattr__" "object" "__setattr__" (.ref x) [.str name tk, v] [] _ SF.kind SF.split sb (SF.args (.ref x) (.str name tk) v) ?_)
  have lm : W.Looks (model prog w) hp (mroOf (.ref C)) cd.mro := (W.looks_clsIn X hcd).andThen .now
  have lt : W.Looks (model prog w) hp (storeTaker? none) none := .now
  have lc : W.Looks (model prog w) hp (classData C) cd := W.looks_clsIn X hcd
  rw [W.osa_eq, refuse_eq]
  refine wpAny_bind (wpAny_bind (ia.type.at (wpAny_bind (lm.at ?_))))
  rw [refsX_pass _ _ hm]
  refine wpAny_pure (wpAny_bind (ia.type.at (wpAny_bind ((W.looks_findIn X ha).at (wpAny_bind (lt.at ?_))))))
  show wpAny _ _ (storeInOwnDict (.ref x) (.ref C) (.str name tk) name v false) _ _ _
  obtain ⟨nm, bs, mro, ns, qn, hd, sn, sb', ab, col, del⟩ := cd
  dsimp only at hh
  subst hh
  unfold storeInOwnDict ownDictForStores
  repeat (first | with_reducible refine store_in_new ?_ ?_ | with_reducible refine wpAny_loadPart_at hx ?_ | with_reducible refine lc.at ?_ | wp_step)
  · exact ⟨_, #[], _, (Heap.get?_update_ne _ _ _ _ nx.symm).trans (Heap.get?_push_at rfl rfl), rfl, fun e he => absurd he (by simp), fun _ => rfl⟩
  · intro h' tk' hn' hs
    have hx1 : (hp.push { cls := .type "dict", data := .dict #[] }).get? x = some { cls := .ref C, data := .fields fv } := Heap.get?_push_of_some _ hx
    refine hq h' tk' hp.objs.size (fun b o hb ho => ?_) (Nat.le_refl _) nx.symm ?_ hn'
    · exact (hs.2 b (Nat.ne_of_lt (Heap.lt_size ho))).trans ((Heap.get?_update_ne _ _ _ _ hb).trans (Heap.get?_push_of_some _ ho))
    · exact (hs.2 x nx).trans (Heap.get?_update_self _ hx1 rfl)
end
end MyX
end PySem
namespace My
open PySem PySem.Spec PyProof.Rows L2
/-- what the written part says of such a class -/
structure OexE (K : PySem.W.Frag) (C : Addr) : Prop where
  cls : ∃ nm q N bs bm sn sub ab col dd k0 k1 k2 k3 k5, K.lookup C = some (excClassObj nm q C N bs bm true sn sub ab col dd k0 k1 k2 k3 k5 "Exception.__new__") ∧ PySem.MyX.refsX bm = true
  sa : PySem.W.findIn K (.ref C) "__setattr__" = some (some (.builtin "object.__setattr__"))
  exC : PySem.W.subIn K (.ref C) (.type "BaseException") = some true
  tyC : PySem.W.typeIn K (.ref C) = some (.type "type")
  kC : PySem.W.keepIn K (.ref C) = true
section
variable {X : Cx} {pins : List (Addr × Obj)} {σ : L2.St} {H : Hp} {s : Shared} {a C dx : Addr} {f : Str} {y : V} {u : Value} {Q : Unit → Shared → Prop} {E : Value → Shared → Prop} {A : Around}
theorem ostE_new (T : OexE X.K C) (I : Inv X pins σ H s) (e : H a = some (exo a C none)) (hno : PySem.W.findIn X.K (.ref C) f = some none) (ry : RelV y u)
    (h : ∀ dx s', H dx = none → dx ≠ a → Inv X pins σ (upd (upd H dx (exd dx [(f, y)])) a (exo a C (some dx))) s' → Q () s') : wpAny (model X.prog X.w) A (setAttr (.ref a) f u) Q E s := by
  obtain ⟨nm, q, N, bs, bm, sn, sub, ab, col, dd, k0, k1, k2, k3, k5, hC, hbm⟩ := T.cls
  have hcl : PySem.W.clsIn X.K C = some { name := nm, bases := bs, mro := .ref C :: bm, ns := N, qualname := q, hasDict := true, slotNames := sn, subclasses := sub, abstract := ab, collection := col, hasDel := false } := by
    unfold PySem.W.clsIn
    rw [hC] <;> rfl
  obtain ⟨t1, ho⟩ := exo_at I.hok e
  obtain ⟨hp, g, d, t, os⟩ := s
  refine PySem.W.set_plain I.kIn (ox := { cls := .ref C, dict := none, data := .fields #[.ref t1, .none, .none, .none, .bool false, .none] }) (od := none) ⟨ho, rfl, rfl, trivial⟩ T.sa ?_
  refine PySem.MyX.x_osa I.kIn ho hcl (show PySem.MyX.refsX (.ref C :: bm) = true from hbm) rfl hno (fun h' tk' dx k dn dne hx hn => ?_)
  have fd : H dx = none := I.hok.fresh dn
  have nd : ∀ {b : Addr} {o : Obj}, hp.get? b = some o → b ≠ dx := fun {b o} q => Nat.ne_of_lt (Nat.lt_of_lt_of_le (Heap.lt_size q) dn)
  have na : ∀ {b : Addr}, H b = none → b ≠ a := fun {b} n z => by
    rw [z, e] at n
    cases n
  have un : Un X.fs [] H (upd (upd H dx (exd dx [(f, y)])) a (exo a C (some dx))) hp h' := {
    keep := fun b o q n _ _ => k b o (na n) q
    slot := fun b o q n _ _ => ⟨o.slots, k b o (na n) q⟩
    free := fun b o q n _ => by
      rw [upd_ne (na n), upd_ne (nd q)]
      exact n
    there := fun b o q _ => by
      by_cases hb : b = a
      · exact ⟨_, by rw [hb]; exact hx⟩
      · exact ⟨o, k b o hb q⟩
    tups := fun b xs q => by
      rw [upd_ne (at_ne e q exo_tup), upd_ne (ne_of_none q fd)]
      exact q
    frzs := fun b o v q => by
      rw [upd_ne (at_ne e q exo_frz), upd_ne (ne_of_none q fd)]
      exact q
    tbls := fun b ps q => ⟨#[], by
      rw [upd_ne (at_ne e q exo_tbl), upd_ne (ne_of_none q fd), q]
      simp⟩ }
  refine h dx _ fd dne (I.un (t' := tk') un fun b o q => ?_)
  by_cases hb : b = a
  · subst hb
    rw [upd_same] at q
    cases q
    exact exo_ok hx
  · rw [upd_ne hb] at q
    by_cases hd : b = dx
    · subst hd
      rw [upd_same] at q
      cases q
      exact exd_ok hn (relO_put (fs := []) ry fun g => True.intro)
    · rw [upd_ne hd] at q
      refine (I.hok b o q).stay (fun c v hc z => k c v ?_ z) (fun c hc => ?_) (fun c xs hc => ?_)
      · rcases hc with hc | hc
        · rw [hc]
          exact hb
        · exact at_ne e hc exo_own
      · rw [upd_ne (at_ne e hc exo_own), upd_ne (ne_of_none hc fd)]
        exact hc
      · rw [upd_ne (at_ne e hc exo_tup), upd_ne (ne_of_none hc fd)]
        exact hc
end
/-- self.f = e, the first field of an exception that is being made -/
def tOstE (K : PySem.W.Frag) (f : Str) (to te : TE) : TS := fun D σ H => te σ H fun y H1 => to σ H1 fun x H2 => ∃ a C : Addr, x = .ref a ∧ OexE K C ∧ PySem.W.findIn K (.ref C) f = some none ∧
  H2 a = some (exo a C none) ∧ ∀ dx, H2 dx = none → dx ≠ a → D.nx σ (upd (upd H2 dx (exd dx [(f, y)])) a (exo a C (some dx)))
theorem ps_ostE {X : Cx} {o e : Expr} {to te : TE} {f : Str} {p' pos : Pos} (ho : PE X o to) (he : PE X e te) (hs : swapsWith e (some (.Attribute o f p')) pos.line X.env = pure false := by rfl) : PS X (.Assign [.Attribute o f p'] e pos) (tOstE X.K f to te) := by
  refine ⟨fun pins s σ H D I h => ?_⟩
  refine plainObj_wpAny_Assign_Attribute (thn (he.run pins s σ H _ I h) fun v s1 ⟨y, H1, I1, r1, q1⟩ => thn (ho.run pins s1 σ H1 _ I1 q1) fun u s2 ⟨x, H2, I2, r2, a, C, ex, T, hno, ea, q⟩ => ?_) hs
  subst ex
  obtain rfl : u = Value.ref a := r2
  exact ostE_new T I2 ea hno r1 fun dx s' n ne J => ⟨σ, _, J, q dx n ne⟩
end My

set_option Elab.async false
set_option maxRecDepth 100000
set_option maxHeartbeats 4000000
set_option linter.all false
namespace My
open PySem PySem.Spec PyProof.Rows L2
/-- C(e, ..) as a value, C's __init__ keeping sp -/
def tMkE (C : Addr) (sp : Sp) (dvs : List V) (ta : TA) : TE := fun σ H Q => ta σ H fun vs H1 => vs.length ≤ 1000 ∧ ∀ a, H1 a = none → sp (.ref a :: (vs ++ dvs)) (upd H1 a (exo a C none)) (fun v H2 => v = .non ∧ Q (.ref a) H2) (fun _ _ _ => False)
section
variable {X : Cx} {pins : List (Addr × Obj)} {σ : L2.St} {H1 : Hp} {CX : CXT} {x : Str} {C fI : Addr} {k : Nat} {fd : FuncData} {ps : List Str} {sp : Sp} {ds us : List Value} {dvs vs : List V} {s1 : Shared}
/-- the class's __init__ stands and keeps its promise -/
structure IniE (X : Cx) (CX : CXT) (C fI : Addr) (k : Nat) (fd : FuncData) (ps : List Str) (sp : Sp) (ds : List Value) (dvs : List V) : Prop where
  T : OexE X.K C
  iC : PySem.W.findIn X.K (.ref C) "__init__" = some (some (.ref fI))
  tI : PySem.W.typeIn X.K (.ref fI) = some (.type "function")
  F1 : FnOk X.prog X.w X.K X.mg X.base CX k fI fd ps sp
  hb : Binds X.K fd ps ds
  hd : Vals dvs ds
theorem run_own {R : Result → Shared → Prop} (J : IniE X CX C fI k fd ps sp ds dvs) (hr : Room (k + 1) X.A) (I1 : Inv X pins σ H1 s1) (r1 : Vals vs us) (hz : vs.length ≤ 1000) {Q1 : VK} {E1 : XK}
    (hq : sp (.ref (s1.heap.objs.size + 1) :: (vs ++ dvs)) (upd H1 (s1.heap.objs.size + 1) (exo (s1.heap.objs.size + 1) C none)) Q1 E1)
    (fin : ∀ (hp2 : Heap) (r : Result) (s' : Shared), (∀ b o, s1.heap.get? b = some o → hp2.get? b = some o) →
      Inv X pins σ (upd H1 (s1.heap.objs.size + 1) (exo (s1.heap.objs.size + 1) C none)) { s1 with heap := hp2 } →
      CR CX X.stack X.prog X.w (upd H1 (s1.heap.objs.size + 1) (exo (s1.heap.objs.size + 1) C none)) { s1 with heap := hp2 } Q1 E1 r s' → PySem.W.InitBack (s1.heap.objs.size + 1) R r s') :
    codeAny (model X.prog X.w) X.A (.call (.ref C) ⟨us, []⟩) R s1 := by
  obtain ⟨nm, q, N, bs, bm, sn, sub, ab, col, dd, k0, k1, k2, k3, k5, hC, hbm⟩ := J.T.cls
  obtain ⟨hp, g, dr, tk, os⟩ := s1
  have hs : hp.objs.size ≤ hp.objs.size + 1 := Nat.le_succ _
  have kk : ∀ b o, hp.get? b = some o → ((hp.push (PySem.W.kdv_tup us)).push (PySem.HandSPX.excO C hp.objs.size)).get? b = some o := fun b o e => Heap.get?_push_of_some _ (Heap.get?_push_of_some _ e)
  have hg : ((hp.push (PySem.W.kdv_tup us)).push (PySem.HandSPX.excO C hp.objs.size)).get? (hp.objs.size + 1) = some (PySem.HandSPX.excO C hp.objs.size) := by heap_get
  have I2 : Inv X pins σ (upd H1 (hp.objs.size + 1) (exo (hp.objs.size + 1) C none)) ⟨(hp.push (PySem.W.kdv_tup us)).push (PySem.HandSPX.excO C hp.objs.size), g, dr, tk, os⟩ :=
    I1.laid (t' := tk) (a := hp.objs.size + 1) (o := exo (hp.objs.size + 1) C none) (h' := (hp.push (PySem.W.kdv_tup us)).push (PySem.HandSPX.excO C hp.objs.size)) kk hs (exo_ok hg)
  have r2 : Vals (V.ref (hp.objs.size + 1) :: (vs ++ dvs)) (Value.ref (hp.objs.size + 1) :: (us ++ ds)) := .cons rfl (r1.append J.hd)
  have hl : (Value.ref (hp.objs.size + 1) :: us ++ ds).length = ps.length := by
    have e := r2.length
    rw [J.F1.len _ _ _ _ hq] at e
    exact e.symm
  have hus : us.length ≤ sizeLine := by
    rw [← Paired.length r1, sizeLine_eq]
    omega
  refine PySem.HandSPX.call_own F.excBase_Exception (fun Y => PySem.MyX.refsX_has Y bm hbm) (I1.kIn _ _ hC) (PySem.W.looks_findIn I1.kIn J.iC) (fun self => PySem.W.bind_fn I1.kIn self J.tI) hus
    (codeAny_mono (J.F1.run _ X.stack _ _ ⟨Value.ref (hp.objs.size + 1) :: us, []⟩ (Value.ref (hp.objs.size + 1) :: (us ++ ds)) _ Q1 E1 (hr.make C us []) (I2.env0.make C us []) (J.hb _ (Value.ref (hp.objs.size + 1) :: us) I2.kIn hl) r2 hq) fun r s' hq' => ?_)
  exact fin _ r s' kk I2 hq'
theorem run_mkE (J : IniE X CX C fI k fd ps sp ds dvs) (hr : Room (k + 1) X.A) (hx : Passes CX X (fun _ _ _ => False)) (I1 : Inv X pins σ H1 s1) (r1 : Vals vs us) {Q : VK} (hz : vs.length ≤ 1000)
    (q1 : ∀ a, H1 a = none → sp (.ref a :: (vs ++ dvs)) (upd H1 a (exo a C none)) (fun v H2 => v = .non ∧ Q (.ref a) H2) (fun _ _ _ => False)) : wpAny (model X.prog X.w) X.A (call (.ref C) us) (EP X pins σ Q) X.xe s1 := by
  refine wpAny_call (run_own J hr I1 r1 hz (q1 _ (I1.hok.fresh (Nat.le_succ _))) fun hp2 r s' kk I2 hq' => ?_)
  cases r with
  | error er => exact hx pins σ _ _ er s' I2 hq'
  | ok fl =>
    cases fl with
    | ret u =>
      obtain ⟨v, H', I3, rv, ev, q3⟩ := I2.after hq'
      subst ev
      exact ⟨rv, ⟨V.ref (s1.heap.objs.size + 1), H', I3, rfl, q3⟩⟩
    | next => exact False.elim hq'
    | brk => exact False.elim hq'
    | cont => exact False.elim hq'
theorem run_mkR (J : IniE X CX C fI k fd ps sp ds dvs) (hr : Room (k + 1) X.A) (hx : Passes CX X (fun _ _ _ => False)) (I1 : Inv X pins σ H1 s1) (r1 : Vals vs us) {Q : XK} (hz : vs.length ≤ 1000)
    (q1 : ∀ a, H1 a = none → sp (.ref a :: (vs ++ dvs)) (upd H1 a (exo a C none)) (fun v H2 => v = .non ∧ ∃ (d : Addr) (fs : List (Str × V)), H2 a = some (exo a C (some d)) ∧ H2 d = some (exd d fs) ∧ H1 d = none ∧ Q (.ref C) (some d) (upd (del H2 a) d (.xd fs))) (fun _ _ _ => False)) :
    wpAny (model X.prog X.w) X.A (call (.ref C) us) (MkP X pins σ Q) X.xe s1 := by
  refine wpAny_call (run_own J hr I1 r1 hz (q1 _ (I1.hok.fresh (Nat.le_succ _))) fun hp2 r s' kk I2 hq' => ?_)
  cases r with
  | error er => exact hx pins σ _ _ er s' I2 hq'
  | ok fl =>
    cases fl with
    | ret u =>
      obtain ⟨v, H2, os2, bare2, un2, hok2, rv, ev, d, fs, ea, ed, hd1, q2⟩ := hq'
      subst ev
      obtain ⟨hp, g, dr, tk, os⟩ := s1
      obtain ⟨h2, g2, d2, t2, os'⟩ := s'
      exact ⟨rv, mk_end (raises_own J.T.exC J.T.tyC) I1 (Nat.le_succ _) kk un2 hok2 os2 bare2 ea ed hd1 q2⟩
    | next => exact False.elim hq'
    | brk => exact False.elim hq'
    | cont => exact False.elim hq'
end
section
variable {X : Cx} {CX : CXT} {x : Str} {C fI : Addr} {k : Nat} {fd : FuncData} {ps : List Str} {sp : Sp} {ds : List Value} {dvs : List V} {e : Expr} {es : List Expr} {ta : TA} {p pos : Pos}
theorem pe_mkE (J : IniE X CX C fI k fd ps sp ds dvs) (hr : Room (k + 1) X.A) (hx : Passes CX X (fun _ _ _ => False)) (hg : Gl X x) (hm : X.mg x = some (.ref C)) (ha : PA X (e :: es) ta)
    (hdb : (x == ("__debug__" : Str)) = false := by decide) (he : starEach (e :: es) X.env = (false, eval e X.env) :: starEach es X.env := by rfl) (hpl : (backTo pos (starEach es X.env)).any (·.1) = false := by rfl) :
    PE X (.Call (.Name x p) (e :: es) [] pos) (tMkE C sp dvs ta) := by
  refine ⟨fun pins s σ H Q I h => ?_⟩
  refine wpAny_Call_Name_kw (ld_glob I hg hm ?_ hdb)
  refine PySem.W.callWith_K (h₀ := X.base) I.ok.mod.kin J.T.kC (thn (ha.run pos pins s σ H _ I h) fun us s1 ⟨vs, H1, I1, r1, hz, q1⟩ => ⟨I1.kIn, ?_⟩) he hpl
  exact run_mkE J hr hx I1 r1 hz q1
theorem pe_mkE0 (J : IniE X CX C fI k fd ps sp ds dvs) (hr : Room (k + 1) X.A) (hx : Passes CX X (fun _ _ _ => False)) (hg : Gl X x) (hm : X.mg x = some (.ref C)) (hdb : (x == ("__debug__" : Str)) = false := by decide) :
    PE X (.Call (.Name x p) [] [] pos) (tMkE C sp dvs tNil) := by
  refine ⟨fun pins s σ H Q I h => ?_⟩
  refine wpAny_Call_Name_kw (ld_glob I hg hm ?_ hdb)
  exact PySem.W.callWith_K0 I.kIn J.T.kC (run_mkE (us := []) (vs := []) J hr hx I .nil h.1 h.2)
theorem pmk_E (J : IniE X CX C fI k fd ps sp ds dvs) (hr : Room (k + 1) X.A) (hx : Passes CX X (fun _ _ _ => False)) (hg : Gl X x) (hm : X.mg x = some (.ref C)) (ha : PA X (e :: es) ta)
    (hdb : (x == ("__debug__" : Str)) = false := by decide) (he : starEach (e :: es) X.env = (false, eval e X.env) :: starEach es X.env := by rfl) (hpl : (backTo pos (starEach es X.env)).any (·.1) = false := by rfl) :
    PMk X (.Call (.Name x p) (e :: es) [] pos) (tMkO C sp dvs ta) := by
  intro pins s σ H Q I h
  refine wpAny_Call_Name_kw (ld_glob I hg hm ?_ hdb)
  refine PySem.W.callWith_K (h₀ := X.base) I.ok.mod.kin J.T.kC (thn (ha.run pos pins s σ H _ I h) fun us s1 ⟨vs, H1, I1, r1, hz, q1⟩ => ⟨I1.kIn, ?_⟩) he hpl
  exact run_mkR J hr hx I1 r1 hz q1
theorem pmk_E0 (J : IniE X CX C fI k fd ps sp ds dvs) (hr : Room (k + 1) X.A) (hx : Passes CX X (fun _ _ _ => False)) (hg : Gl X x) (hm : X.mg x = some (.ref C)) (hdb : (x == ("__debug__" : Str)) = false := by decide) :
    PMk X (.Call (.Name x p) [] [] pos) (tMkO C sp dvs tNil) := by
  intro pins s σ H Q I h
  refine wpAny_Call_Name_kw (ld_glob I hg hm ?_ hdb)
  exact PySem.W.callWith_K0 I.kIn J.T.kC (run_mkR (us := []) (vs := []) J hr hx I .nil h.1 h.2)
end
end My

set_option Elab.async false
set_option maxRecDepth 100000
set_option maxHeartbeats 4000000
set_option linter.all false
namespace My
open PySem PySem.Spec PyProof.Rows L2
/-- at a an exception of the class at C stands as a value, its fields fs -/
def Exv (H : Hp) (a C : Addr) (fs : List (Str × V)) : Prop := ∃ dx, H a = some (exo a C (some dx)) ∧ H dx = some (exd dx fs)
theorem Exv.same {H H' : Hp} {a C : Addr} {fs : List (Str × V)} (h : Exv H a C fs) (s : Same H H') : Exv H' a C fs := by
  obtain ⟨dx, h1, h2⟩ := h
  exact ⟨dx, s _ _ h1, s _ _ h2⟩
section
variable {X : Cx} {pins : List (Addr × Obj)} {σ : L2.St} {H : Hp} {s : Shared} {a C : Addr} {fs : List (Str × V)}
theorem Exv.at (h : Exv H a C fs) (I : Inv X pins σ H s) : ∃ (oe od : Obj) (mA : Str → Option Value), PySem.W.InstAt s.heap a oe C (some od) ∧ (∀ f, RelO (fs.lookup f) (mA f)) ∧ ∀ n, PySem.W.lookIn n od = some (mA n) := by
  obtain ⟨dx, h1, h2⟩ := h
  obtain ⟨t1, ho⟩ := exo_at I.hok h1
  obtain ⟨mA, hns, rel⟩ := exd_at I.hok h2
  obtain ⟨od, hod, hl⟩ := lookIn_ns hns
  exact ⟨_, od, mA, ⟨ho, rfl, rfl, hod⟩, rel, hl⟩
end
/-- isinstance(e, c) of an exception that is held as a value -/
def rIsV (K : PySem.W.Frag) : List V → Hp → VK → Prop := fun xs H Q => ∃ (a D : Addr) (fs : List (Str × V)) (c : V) (cv : Value) (b : Bool), xs = [.ref a, c] ∧ ExcC K D ∧ Exv H a D fs ∧ ClsV c cv ∧ PySem.W.kitOne K (.ref D) cv = some b ∧ Q (.bl b) H
def rIsVT (K : PySem.W.Frag) : List V → Hp → VK → Prop := fun xs H Q => ∃ (a D tp : Addr) (fs : List (Str × V)) (cs : List V) (us : List Value) (b : Bool), xs = [.ref a, .ref tp] ∧ ExcC K D ∧ Exv H a D fs ∧ H tp = some (.tup cs) ∧ Paired ClsV cs us ∧ PySem.W.kitAny K (.ref D) us = some b ∧ Q (.bl b) H
section
variable {X : Cx}
theorem kit_exv {pins : List (Addr × Obj)} {σ : L2.St} {H : Hp} {s : Shared} {a D : Addr} {fs : List (Str × V)} (T : ExcC X.K D) (h : Exv H a D fs) (I : Inv X pins σ H s) : ∃ P : Heap → Prop, PySem.W.KitX X.K (.ref a) (.ref D) P ∧ P s.heap := by
  obtain ⟨oe, od, mA, J, _⟩ := h.at I
  obtain ⟨cd, hc, _⟩ := PySem.W.any_some T.hd
  exact ⟨_, PySem.W.kitx_exc (by rw [hc]; rfl) T.hg T.hk T.hs T.ha T.hn T.ht T.hm, J⟩
theorem call_isV : CallR X (.builtin "isinstance") (rIsV X.K) := by
  intro pins s σ H xs us Q I r h
  obtain ⟨a, D, fs, c, cv, b, rfl, T, ex, k, e, q⟩ := h
  obtain ⟨u1, u2, rfl, r1, r2⟩ := vals2 r
  have e2 := k.eq r2
  subst e2
  cases (show u1 = Value.ref a from r1)
  obtain ⟨P, Z, p⟩ := kit_exv T ex I
  exact PySem.W.kia_one Z I.kIn p e (fun z => nomatch z) fun tk => ⟨.bl b, H, I.tok tk, rfl, q⟩
theorem call_isVT : CallR X (.builtin "isinstance") (rIsVT X.K) := by
  intro pins s σ H xs us Q I r h
  obtain ⟨a, D, tp, fs, cs, ws, b, rfl, T, ex, hT, k, e, q⟩ := h
  obtain ⟨u1, u2, rfl, r1, r2⟩ := vals2 r
  cases (show u1 = Value.ref a from r1)
  cases (show u2 = Value.ref tp from r2)
  obtain ⟨P, Z, p⟩ := kit_exv T ex I
  obtain ⟨_, its, rv, o, h1, h2, n, h3⟩ := (show ObjOk X.prog X.w H s.heap tp (.tup cs) from I.hok tp _ hT)
  have e3 := ClsV.all k rv
  subst e3
  obtain ⟨oc, od, dt, sl⟩ := o
  simp only at h2 h3
  subst h2 h3
  exact PySem.W.kia_tup Z I.kIn p h1 e (fun z => nomatch z) fun tk => ⟨.bl b, H, I.tok tk, rfl, q⟩
/-- e.n of an exception that is held as a value -/
def tXv (K : PySem.W.Frag) (n : Str) (te : TE) : TE := fun σ H Q => te σ H fun x H1 => ∃ (a C : Addr) (fs : List (Str × V)) (v : V), x = .ref a ∧ XfC K C ∧ PySem.W.findIn K (.ref C) n = some none ∧ Exv H1 a C fs ∧ fs.lookup n = some v ∧ Q v H1
theorem pe_xv {e : Expr} {te : TE} {pos : Pos} {n : Str} (he : PE X e te) (hb : attributeBase e n X.env (eval e X.env) = eval e X.env := by rfl) : PE X (.Attribute e n pos) (tXv X.K n te) := by
  refine ⟨fun pins s σ H Q I h => ?_⟩
  refine attr_of hb (thn (he.run pins s σ H _ I h) fun u s1 hh => ?_)
  obtain ⟨x, H1, I1, rx, a, C, fs, v, ex, T, hno, ev, l, q⟩ := hh
  subst ex
  obtain rfl : u = Value.ref a := rx
  obtain ⟨oe, od, mA, J, rel, hl⟩ := ev.at I1
  obtain ⟨u, hu, ru⟩ := RelO.some_of (v := v) (o := mA n) (by rw [← l]; exact rel n)
  exact HandSPX.exc_get I1.kIn J T.ga T.gg T.exC (PySem.W.findObj_own T.hdC hno rfl (by rw [hl, hu])) (handed_of ru) ⟨v, H1, I1.tok _, ru, q⟩
end
end My

set_option Elab.async false
set_option maxRecDepth 100000
set_option maxHeartbeats 4000000
set_option linter.all false
/-! try with several clauses «except X as n» -/
namespace My
open PySem PySem.Spec PyProof.Rows L2
/-- what stands behind a suite: its name is gone -/
def endA (D : Ends) (i : Nat) : Ends := { nx := fun σ' H' => D.nx (σ'.set i none) H', rt := D.rt, bk := fun σ' H' => D.bk (σ'.set i none) H', ct := fun σ' H' => D.ct (σ'.set i none) H' }
def wManyA (K : PySem.W.Frag) (Wout : WX) (D : Ends) : List (Value × Nat × (Addr → Value → Option Addr → TS)) → WX
  | [] => Wout
  | (c, i, ts) :: r => fun cls d σ H => ∃ b, PySem.W.exmOne K cls c = some b ∧ (b = true → ∀ a, H a = none → ts a cls d (endA D i) (σ.set i (some (.ref a))) H) ∧ (b = false → wManyA K Wout D r cls d σ H)
inductive HdsA (X : Cx) : List ExceptHandler → List (Value × Nat × (Addr → Value → Option Addr → TS)) → Prop
  | nil : HdsA X [] []
  | cons {x n : Str} {c : Value} {i : Nat} {ts : Addr → Value → Option Addr → TS} {b₀ : Stmt} {suite : List Stmt} {np pos' : Pos} {hds : List ExceptHandler} {l : List (Value × Nat × (Addr → Value → Option Addr → TS))} (hc : Names X x c)
      (hi : X.N[i]? = some n) (hln : X.env.kindOf n = some .local)
      (hsu : ∀ (a : Addr) (oe : Obj) (cls : Value) (d : Option Addr) (pn : List (Addr × Obj)), Zc cls d oe → (∃ vs, oe.data = .fields vs) → PSs (X.suite a ((a, oe) :: pn)) (b₀ :: suite) (ts a cls d)) (r : HdsA X hds l) :
      HdsA X (.ExceptHandler (some (.Name x np)) (some n) (b₀ :: suite) pos' :: hds) ((c, i, ts) :: l)
section
variable {X : Cx} {body : List Stmt} {h₀ : ExceptHandler} {hds : List ExceptHandler} {l : List (Value × Nat × (Addr → Value → Option Addr → TS))} {pos : Pos} {tb : WX → TS} {Wout : WX}
theorem ps_try_manyA (hs : X.stack = X.env :: X.outer) (hf : X.env.frame = some X.env.locals) (hN : X.N.Nodup) (tk : Takes X Wout)
    (hb : ∀ (W : WX) (pn : List (Addr × Obj)) (xe : Value → Shared → Prop), Takes (X.tr pn xe) W → PassesOwn (model X.prog X.w) X.A X.env xe → PSs (X.tr pn xe) body (tb W))
    (hh : HdsA X (h₀ :: hds) l) : PS X (.Try body (h₀ :: hds) [] [] pos) (fun D σ H => tb (wManyA X.K Wout D l) D σ H) := by
  refine ⟨fun pins s σ H D I h => ?_⟩
  have ok := I.ok
  have fr : X.A.frames = some (X.env :: X.outer) := by rw [ok.frames, hs]
  refine wpAny_Try_except ?_
  refine wpAny_mono ((hb (wManyA X.K Wout D l) (X.pn ++ pins) (fun e s₁ => wpAny (model X.prog X.w) X.A (noteFrame e X.env) (fun _ s₂ => wpAny (model X.prog X.w) X.A (setFlight e none) (fun _ s₃ =>
    wpAny (model X.prog X.w) X.A (handleBy e X.env (h₀ :: hds)) (SP X pins D) X.xe s₃) X.xe s₂) X.xe s₁) (fun u s' xx => ?_) PassesOwn.looking).run [] s σ H D (I.toTry _) h) (fun f s1 hsp => ?_) (fun e s1 he => he)
  · obtain ⟨a, B, sI, pins', σ', H', cls, d, rfl, J', nb, up, sky, na, os, ag, w⟩ := xx
    have J : Inv X pins σ' H' sI := J'.ofTry ok
    have sk : Sky B (X.env :: X.outer) a (Zc cls d) X.env.locals s'.heap := by
      rw [← hs]
      exact sky
    show wpAny (model X.prog X.w) X.A (noteFrame (.ref a) X.env) _ _ _
    refine Sky.land Zc.steady fr hf sk fun h3 fl3 up3 => ?_
    have J3 : Inv X pins σ' H' { s' with heap := h3 } := J.landed nb fl3.1 (up.trans up3) os ag
    obtain ⟨oe3, vs3, he3, hz3, hd3⟩ := fl3.there
    have nfr : a ∉ frs (X.env :: X.outer) := fun hm => by
      obtain ⟨_, o', e', hnf⟩ := fl3.2.2.1.mem hm
      rw [he3] at e'
      cases e'
      exact hnf _ hd3
    have nL : a ≠ X.env.locals := fun z => nfr (List.mem_filterMap.mpr ⟨X.env, List.mem_cons_self, by rw [hf, z]⟩)
    have nF : a ∉ X.fs := fun hm => by
      obtain ⟨e, he, q⟩ := List.mem_filterMap.mp hm
      exact nfr (List.mem_filterMap.mpr ⟨e, List.mem_cons_of_mem _ he, q⟩)
    have S3 := J3.suite he3 hd3 na nL nF
    have go : ∀ {hds' : List ExceptHandler} {l' : List (Value × Nat × (Addr → Value → Option Addr → TS))}, HdsA X hds' l' → wManyA X.K Wout D l' cls d σ' H' →
        wpAny (model X.prog X.w) X.A (handleBy (.ref a) X.env hds') (SP X pins D) X.xe { s' with heap := h3 } := by
      intro hds' l' hk
      induction hk with
      | nil =>
        intro w
        refine wpAny_handleBy_nil ?_
        obtain ⟨k1, k2, k3, oe, vs, T, oT, ts', he, hz, hd, h1, hr⟩ := id fl3
        unfold PySem.passOn
        refine wpAny_bind (wpAny_field he hd h1 ?_)
        rw [if_neg (show ¬ ((Value.ref T == Value.none) = true) from by simp)]
        have fin : wpAny (model X.prog X.w) X.A (setFlight (.ref a) X.env.frame) (fun _ s4 => wpAny (model X.prog X.w) X.A (throw (.ref a) : Sem Flow) (SP X pins D) X.xe s4) X.xe { s' with heap := h3 } := by
          rw [hf]
          refine HandSPX.setFlight_upZ fl3 fun h4 hh4 up4 => wpAny_throw (tk _ _ ?_)
          exact ⟨a, B, sI, pins, σ', H', cls, d, rfl, J, nb, (up.trans up3).trans up4, .inr (.inr (by rw [hs]; exact hh4)), na, os, ag, w⟩
        first
          | exact wpAny_bind (wpAny_pure (wpAny_bind fin))
          | exact wpAny_bind fin
      | @cons x n c i ts b₀ suite np pos' hds2 l2 hc hi hln hsu r ih =>
        intro w
        obtain ⟨b, hb1, hyes, hno⟩ := w
        refine wpAny_handleBy_cons (codeAny_handlers_test ?_) (by intro q; cases q)
        have LT : PySem.W.Looks (model X.prog X.w) h3 (typeOf (.ref a)) cls := fun A Q E s k q => wpAny_typeOf_ref (k _ _ he3) (by rw [hz3.1]; exact q)
        have LM := PySem.W.exm_one (M := model X.prog X.w) (J3.kIn) LT hb1
        have test : ∀ {Q : Value → Shared → Prop} {E : Value → Shared → Prop}, Q c { s' with heap := h3 } → wpAny (model X.prog X.w) (X.A.mark (some (.ref a))) (eval (.Name x np) X.env) Q E { s' with heap := h3 } := fun {Q E} q => by
          obtain ⟨hg, hdbg, hm | ⟨hm, hv, hnn⟩⟩ := hc
          · exact ld_glob (X := X.suite a ((a, oe3) :: (X.pn ++ pins))) S3 hg hm q hdbg
          · exact ld_blt (X := X.suite a ((a, oe3) :: (X.pn ++ pins))) S3 hg hm hv q hnn hdbg
        refine test (LM.here ?_)
        cases b with
        | true =>
          refine codeAny_handlers_suite_as ?_
          refine HandSPX.lands_againZ fl3 fun h4 fl4 up4 => ?_
          have J4 : Inv X pins σ' H' { s' with heap := h4 } := J.landed nb fl4.1 ((up.trans up3).trans up4) os ag
          obtain ⟨oe4, vs4, he4, hz4, hd4⟩ := fl4.there
          have S4 := J4.suite he4 hd4 na nL nF
          refine store_ok (X := X.suite a ((a, oe4) :: (X.pn ++ pins))) (v := .ref a) S4 hN hi (.inl hln) rfl (fun s5 S5 => ?_) (.inr hln)
          refine wpAny_mono ((hsu a oe4 cls d (X.pn ++ pins) hz4 ⟨_, hd4⟩).run [] s5 _ H' _ S5 (hyes rfl a na)) (fun f s6 hsp => ?_) (fun _ _ z => False.elim z)
          have ends : ∀ {σ6 : L2.St} {H6 : Hp} {Q : Shared → Prop}, Inv (X.suite a ((a, oe4) :: (X.pn ++ pins))) [] σ6 H6 s6 → (∀ s7, Inv X pins (σ6.set i none) H6 s7 → Q s7) →
              wpAny (model X.prog X.w) X.A (do bindName X.env n .none; unbindBehindTheSuite X.env n pos') (fun _ s7 => Q s7) X.xe s6 := fun {σ6 H6 Q} S6 hq => gone_ok (S6.unsuite ok) hN hi hln hq
          cases f with
          | next =>
            obtain ⟨σ6, H6, S6, q6⟩ := hsp
            exact ends S6 fun s7 J7 => ⟨_, _, J7, q6⟩
          | brk =>
            obtain ⟨σ6, H6, S6, q6⟩ := hsp
            exact ends S6 fun s7 J7 => ⟨_, _, J7, q6⟩
          | cont =>
            obtain ⟨σ6, H6, S6, q6⟩ := hsp
            exact ends S6 fun s7 J7 => ⟨_, _, J7, q6⟩
          | ret u =>
            obtain ⟨v6, σ6, H6, S6, r6, q6⟩ := hsp
            exact ends S6 fun s7 J7 => ⟨_, _, _, J7, r6, q6⟩
        | false =>
          show wpAny _ X.A (handleBy (.ref a) X.env hds2) _ _ _
          exact ih (hno rfl)
    exact go hh w
  · cases f with
    | next =>
      obtain ⟨σ', H', J', q⟩ := hsp
      exact wpAny_execs_nil ⟨σ', H', J'.ofTry ok, q⟩
    | brk =>
      obtain ⟨σ', H', J', q⟩ := hsp
      exact ⟨σ', H', J'.ofTry ok, q⟩
    | cont =>
      obtain ⟨σ', H', J', q⟩ := hsp
      exact ⟨σ', H', J'.ofTry ok, q⟩
    | ret u =>
      obtain ⟨v, σ', H', J', r, q⟩ := hsp
      exact ⟨v, σ', H', J'.ofTry ok, r, q⟩
end
end My

set_option Elab.async false
set_option maxRecDepth 100000
set_option maxHeartbeats 4000000
set_option linter.all false
/-! Defs that may raise, by their name; isinstance of a caught exception that has a dict. -/
namespace My
open PySem PySem.Spec PyProof.Rows L2
def PrX (P : Program) (w : World) (K : PySem.W.Frag) (mg : Str → Option Value) (base : Heap) (k : Nat) (x : Str) (ps : List Str) (sp : Sp) : Prop :=
  ∃ f fd, FnOk P w K mg base (L2.CX P w) k f fd ps sp ∧ mg x = some (.ref f) ∧ PySem.W.keepIn K (.ref f) = true ∧ Binds K fd ps []
theorem pe_callPX {X : Cx} {W : WX} {k : Nat} {x : Str} {ps : List Str} {sp : Sp} {e : Expr} {es : List Expr} {t : TA} {p pos : Pos}
    (h : PrX X.prog X.w X.K X.mg X.base k x ps sp) (hr : Room k X.A) (hg : Gl X x) (tk : Takes X W) (ha : PA X (e :: es) t)
    (hdb : (x == ("__debug__" : Str)) = false := by decide) (he : starEach (e :: es) X.env = (false, eval e X.env) :: starEach es X.env := by rfl) (hpl : (backTo pos (starEach es X.env)).any (·.1) = false := by rfl) :
    PE X (.Call (.Name x p) (e :: es) [] pos) (tCallS sp (WE W) t) := by
  obtain ⟨f, fd, F, hm, hk, hb⟩ := h
  exact pe_callS F hr hg hm hk hb (fun σ => passAt tk σ) ha hdb he hpl
/-- where nothing is raised, the def is as one that raises nothing -/
theorem PrX.calm {P : Program} {w : World} {K : PySem.W.Frag} {mg : Str → Option Value} {base : Heap} {k : Nat} {x : Str} {ps : List Str} {sp : Sp} (h : PrX P w K mg base k x ps sp) :
    Pr P w K mg base k x ps (fun vs H Q _ => sp vs H Q (fun _ _ _ => False)) := by
  obtain ⟨f, fd, F, hm, hk, hb⟩ := h
  refine ⟨f, fd, ⟨fun vs H Q E h => F.len _ _ _ _ h, fun A outer s H args us vs Q E hr e0 b r hsp => ?_⟩, hm, hk, hb⟩
  refine codeAny_mono (F.run A outer s H args us vs Q _ hr e0 b r hsp) fun r s' h => ?_
  cases r with
  | error e =>
    obtain ⟨_, _, _, _, _, _, _, _, _, _, _, _, z⟩ := h
    exact z.elim
  | ok fl =>
    cases fl with
    | ret u => exact h
    | next => exact h
    | brk => exact h
    | cont => exact h
/-- isinstance(e, c), e the exception that the suite holds, with a dict of its own -/
def rIsP (K : PySem.W.Frag) (a : Addr) (cls : Value) (d : Option Addr) : List V → Hp → VK → Prop := fun xs H Q => ∃ (D dd : Addr) (fs : List (Str × V)) (c : V) (cv : Value) (b : Bool), xs = [.ref a, c] ∧ cls = .ref D ∧ d = some dd ∧ H dd = some (.xd fs) ∧ ExcC K D ∧ ClsV c cv ∧ PySem.W.kitOne K (.ref D) cv = some b ∧ Q (.bl b) H
theorem call_isP {X : Cx} {a : Addr} {oe : Obj} {cls : Value} {d : Option Addr} {pn : List (Addr × Obj)} (hz : Zc cls d oe) (hf : ∃ vs, oe.data = .fields vs) : CallR (X.suite a ((a, oe) :: pn)) (.builtin "isinstance") (rIsP X.K a cls d) := by
  intro pins s σ H xs us Q I r h
  obtain ⟨D, dd, fs, c, cv, b, rfl, rfl, rfl, ea, C, k, e, q⟩ := h
  obtain ⟨u1, u2, rfl, r1, r2⟩ := vals2 r
  have e2 := k.eq r2
  subst e2
  cases (show u1 = Value.ref a from r1)
  obtain ⟨hget, _⟩ := I.pin (a, oe) (List.mem_append.mpr (.inl List.mem_cons_self))
  obtain ⟨vs, hv⟩ := hf
  obtain ⟨mA, hns, hr⟩ := (show ObjOk X.prog X.w H s.heap dd (.xd fs) from I.hok dd _ ea)
  obtain ⟨od, ho, hl⟩ := lookIn_ns hns
  have J : PySem.W.InstAt s.heap a oe D (some od) := ⟨hget, hz.1, by unfold PySem.W.notCls; rw [hv] <;> rfl, by rw [hz.2]; exact ho⟩
  obtain ⟨cd, hc, _⟩ := PySem.W.any_some C.hd
  exact PySem.W.kia_one (PySem.W.kitx_exc (by rw [hc]; rfl) C.hg C.hk C.hs C.ha C.hn C.ht C.hm) I.kIn J e (fun z => nomatch z) fun tk => ⟨.bl b, H, I.kept (t' := tk) fun _ _ z => z, rfl, q⟩
end My

set_option Elab.async false
set_option maxRecDepth 100000
set_option maxHeartbeats 4000000
set_option linter.all false
namespace C78
open PySem L2 My M78

abbrev sInit : Stmt := inClass (top 1) 0
abbrev fld : Str := "sqlite_errorname"
/-- what the top has made of the three classes -/
structure Cls3 (K : PySem.W.Frag) (mg : Str → Option Value) (CE CD CP fI : Addr) : Prop where
  oe : OexE K CP
  ec : ExcC K CP
  no : PySem.W.findIn K (.ref CP) fld = some none
  ini : PySem.W.findIn K (.ref CP) "__init__" = some (some (.ref fI))
  tI : PySem.W.typeIn K (.ref fI) = some (.type "function")
  gE : mg "Error" = some (.ref CE)
  gD : mg "DatabaseError" = some (.ref CD)
  gP : mg "ProgrammingError" = some (.ref CP)
  kit : PySem.W.kitOne K (.ref CP) (.ref CD) = some true
  exm : PySem.W.exmOne K (.ref CP) (.ref CP) = some true
abbrev sNext : Stmt := top 23
abbrev nNext : List Str := ["scripts", "state", "at", "row"]
theorem scNext : FnScope nNext ["scripts", "state", "at"] (defScope sNext) := ⟨rfl, rfl, rfl, by decide +kernel, rfl, by decide +kernel, by decide +kernel⟩
section
variable {P : Program} {w : World} {K : PySem.W.Frag} {mg : Str → Option Value} {base : Heap}

variable {CE CD CP fI : Addr}
def spInit (K : PySem.W.Frag) : Sp := fun vs H Q _ => ∃ (a C : Addr) (v : V), vs = [.ref a, v] ∧ OexE K C ∧ PySem.W.findIn K (.ref C) fld = some none ∧ H a = some (exo a C none) ∧
  ∀ dx, H dx = none → dx ≠ a → Q .non (upd (upd H dx (exd dx [(fld, v)])) a (exo a C (some dx)))
theorem scInit : FnScope ["self", "sqlite_errorname"] ["self", "sqlite_errorname"] (defScope sInit) := ⟨rfl, rfl, rfl, by decide +kernel, rfl, by decide +kernel, by decide +kernel⟩
abbrev FI (K : PySem.W.Frag) (fI : Addr) (fd : FuncData) : Prop := FunD K "__init__" "Error.__init__" (defArgs sInit) (defBody sInit) (defScope sInit) [.non] [] fI fd
theorem ok_init {fd : FuncData} (F : FI K fI fd) : FnOk P w K mg base CX0 1 fI fd ["self", "sqlite_errorname"] (spInit K) := by
  refine F.ok scInit (fun vs H Q E h => ?_) (fun cdv A outer s H vs Q E hr h => ?_)
  · obtain ⟨a, C, v, rfl, _⟩ := h
    rfl
  · obtain ⟨a, C, v, rfl, T, hno, ha, k⟩ := h
    refine ⟨_, pss_one (ps_ostE (pv 0) (pv 1)), ?_⟩
    exact ⟨_, rfl, _, rfl, a, C, rfl, T, hno, ha, k⟩
theorem bI1 {fd : FuncData} (F : FI K fI fd) : Binds K fd ["self", "sqlite_errorname"] [.none] := by
  obtain ⟨ds, h1, h2⟩ := F.binds1 1 0 (by decide) rfl (ps := ["self", "sqlite_errorname"]) fun T kV doc pm an cdv ct us its h1 h2 => match us, its, h1, h2 with
    | [_], [_], _, _ => ⟨_, rfl, rfl⟩
  cases h1 with
  | cons r rr =>
    cases rr
    cases r
    exact h2
theorem j_of {X : Cx} {fd : FuncData} (F : FI X.K fI fd) (T : Cls3 X.K X.mg CE CD CP fI) : IniE X CX0 CP fI 1 fd ["self", "sqlite_errorname"] (spInit X.K) [.none] [.non] :=
  ⟨T.oe, T.ini, T.tI, ok_init F, bI1 F, .cons rfl .nil⟩
theorem rs_done {H : Hp} {v : V} {Q : XK} (T : Cls3 K mg CE CD CP fI) (k : ∀ (d : Addr) (H' : Hp), H d = none → Same H H' → H' d = some (.xd [(fld, v)]) → Q (.ref CP) (some d) H') :
    ∀ a, H a = none → spInit K [.ref a, v] (upd H a (exo a CP none)) (fun u H2 => u = .non ∧ ∃ (d : Addr) (fs : List (Str × V)), H2 a = some (exo a CP (some d)) ∧ H2 d = some (exd d fs) ∧ H d = none ∧ Q (.ref CP) (some d) (upd (del H2 a) d (.xd fs))) (fun _ _ _ => False) := fun a ha => by
  refine ⟨a, CP, v, rfl, T.oe, T.no, upd_same, fun dx hdx ne => ⟨rfl, dx, [(fld, v)], upd_same, by rw [upd_ne ne, upd_same], ?_, ?_⟩⟩
  · rw [upd_ne ne] at hdx
    exact hdx
  · have hd : H dx = none := by
      rw [upd_ne ne] at hdx
      exact hdx
    refine k dx _ hd (fun b o e => ?_) upd_same
    have nb := ne_of_none e ha
    have nd := ne_of_none e hd
    rw [upd_ne nd, del_ne nb, upd_ne nb, upd_ne nd, upd_ne nb]
    exact e
def rE (r : Row) : List PyData := [.int r.p, .bool r.o, .bool r.r, .int r.l]
/-- a state, each row a list or a tuple, all in a list or a tuple -/
def StIn (xs : List Row) (d : PyData) : Prop := ∃ ds, Sq2 d ds ∧ Paired (fun r e => Sq2 e (rE r)) xs ds
/-- no number of a script that has a step left -/
def BadN (H : Hp) (ss : List (List Wd)) (xs : List Row) (x : V) : Prop := (∃ i : Int, x = .int i ∧ ¬ (0 ≤ i ∧ i < (ss.length : Int))) ∨ (∃ b, x = .bl b) ∨ (∃ T, (∀ K H', Same H H' → TyX K H' x (.type T)) ∧ kitB T "int" = some false) ∨ ∃ j : Nat, x = .int (j : Int) ∧ j < ss.length ∧ j ∉ waitL ss xs xs.length
theorem inV_nat (j : Nat) (l : List Nat) : inV (.int (j : Int)) (l.map fun k : Nat => V.int (k : Int)) = decide (j ∈ l) := by
  rw [Bool.eq_iff_iff, decide_eq_true_iff]
  unfold inV
  rw [List.any_eq_true]
  constructor
  · rintro ⟨y, hy, e⟩
    obtain ⟨k, hk, rfl⟩ := List.mem_map.mp hy
    have : (k : Int) = (j : Int) := eq_of_beq e
    obtain rfl : k = j := by omega
    exact hk
  · intro h
    exact ⟨_, List.mem_map.mpr ⟨j, h, rfl⟩, beq_self_eq_true _⟩
theorem flat_nats (l : List Nat) : (l.map fun k : Nat => V.int (k : Int)).all flatV = true := List.all_eq_true.mpr fun x hx => by
  obtain ⟨k, _, rfl⟩ := List.mem_map.mp hx
  rfl
/-- the values of a row hold no address -/
theorem all_rE {m z : Addr} {H : Hp} {us : List V} {r : Row} (h : AtAll m H us (rE r)) : AtAll z H us (rE r) := by
  rw [all_ints4 h]
  exact .cons (.int _) (.cons (.bl _) (.cons (.bl _) (.cons (.int _) .nil)))
def spNext (CP : Addr) : Sp := fun vs H Q E => ∃ (m A B : Addr) (o : HO) (ss : List (List Wd)) (xs : List Row) (dA dB : PyData) (x : V), H m = some o ∧ vs = [.ref A, .ref B, x] ∧ At m H (.ref A) dA ∧ ScIn ss dA ∧ 1 ≤ ss.length ∧ ss.length ≤ 4 ∧ (∀ sc ∈ ss, okScr sc) ∧
  At m H (.ref B) dB ∧ StIn xs dB ∧ ss.length = xs.length ∧
  ((∃ (j p : Nat) (sc : List Wd) (r : Row) (v : Wd), x = .int (j : Int) ∧ ss[j]? = some sc ∧ xs[j]? = some r ∧ r.p = (p : Int) ∧ sc[p]? = some v ∧
      ∀ (q : Addr) (H' : Hp), Same H H' → At m H' (.ref q) (.tuple [stD (xs.set j (triedM v r (topM xs j)).1), .bool (triedM v r (topM xs j)).2]) → Q (.ref q) H') ∨
    (BadN H ss xs x ∧ ∀ (d : Addr) (H' : Hp), Same H H' → H' d = some (.xd [(fld, .non)]) → E (.ref CP) (some d) H'))
theorem pr_next {fdI : FuncData} (D : Df K mg "next_state" sNext ["scripts", "state", "at"]) (T : Ty mg) (FI' : FI K fI fdI) (T3 : Cls3 K mg CE CD CP fI) (PC : Pr P w K mg base 3 "checked" ["scripts"] spChecked) (PNu : Pr P w K mg base 1 "is_number" ["thing", "many"] spNum)
    (PWt : Pr P w K mg base 4 "waiting_ones" ["scripts", "state"] spWait) (PM : Pr P w K mg base 4 "moved" ["scripts", "state", "at"] spMoved) : PrX P w K mg base 5 "next_state" ["scripts", "state", "at"] (spNext CP) := by
  obtain ⟨f, fd, F, b, g⟩ := D
  refine ⟨f, fd, F.okX scNext (fun vs H Q E h => ?_) (fun cdv Ar outer s H vs Q E hr h => ?_), g, F.kp, b⟩
  · obtain ⟨m, A, B, o, ss, xs, dA, dB, x, hm, rfl, _⟩ := h
    rfl
  · obtain ⟨m, A, B, o, ss, xs, dA, dB, x, hm, rfl, hA, hin, l1, l4, hok, hB, ⟨ds, sq, pr⟩, hle, k⟩ := h
    have nd := scNext.nd
    have hr1 := hr.mono (show 1 ≤ 4 by decide)
    have hr2 := hr.mono (show 2 ≤ 4 by decide)
    have hr3 := hr.mono (show 3 ≤ 4 by decide)
    have J := j_of (X := cxOf (L2.CX P w) P w K mg base nNext "next_state" (defScope sNext) f cdv Ar outer s H E) FI' T3
    refine ⟨_, (pss_cons (ps_asg (pe_callP PC hr3 (by rfl) (pa_cons (pv 0) pa_nil)) (pg_name (i := 0) nd rfl (Or.inl rfl)))
      (pss_cons (ps_asg (pe_callTy call_tuple_of (by rfl) T.tuple (by decide +kernel) (pa_cons (pe_lc (own := [("row", 3)]) (g := gName 3) (tt := tYes) (te := tCB (rTupOf K) (tCons (tVar 3) tNil)) (by rfl) nd (pi_sq (pv 1))
  (blkOk_by (own := [("row", 3)]) (N := nNext) (sc := defScope sNext) (by decide +kernel))
  (fun _ _ _ _ _ => pg_name (i := 3) nd rfl (Or.inl rfl) (Or.inr rfl)) (fun _ _ _ _ _ => pts_nil)
  (fun _ _ _ _ _ => (pe_callTy call_tuple_of (by rfl) T.tuple (by decide +kernel) (pa_cons (pv 3) pa_nil)))) pa_nil)) (pg_name (i := 1) nd rfl (Or.inl rfl)))
      (pss_cons (ps_if (PW.pt (pw_or (pt_not (pt_val (pe_callP PNu hr1 (by rfl) (pa_cons (pv 2) (pa_cons (pe_callB call_len (by rfl) T.len PySem.boot_len (pa_cons (pv 0) pa_nil)) pa_nil))))) (pw_or1 (pt_cmpR op_notIn_seq (pv 2) (pe_callP PWt hr (by rfl) (pa_cons (pv 0) (pa_cons (pv 1) pa_nil))) (by rfl)))))
        (pss_one (ps_raise rfl (takes_of rfl rfl rfl rfl) (pmk_E0 J hr2 pass0 (by rfl) T3.gP)))
        pss_nil)
      (pss_one (ps_ret (pe_callP PM hr (by rfl) (pa_cons (pv 0) (pa_cons (pv 1) (pa_cons (pv 2) pa_nil))))))))), ?_⟩
    refine ⟨_, rfl, m, A, o, ss, dA, hm, rfl, hA, hin, l1, l4, hok, fun q1 H1 s1 aq => ?_⟩
    obtain ⟨_, ub, eb, nB, hB1, aB⟩ := sq.at hB
    cases eb
    have lds := paired_len pr
    have lub : ub.length = xs.length := by
      rw [aB.length, lds]
    have hm1 := s1 _ _ hm
    refine isq (a := B) (us := ub) (fun Q q => ⟨_, rfl, q⟩) (hB1.same s1) (fun J G W hG => fun Dm hDm => ?_)
    refine lc_it W (fun i H4 => Same H1 H4 ∧ ∃ vs, Bld m Dm H4 vs ((xs.take i).map rowD)) ?_ ?_ ?_ ?_
    · exact ⟨same_new hDm, [], Bld.start hm1 hDm⟩
    · exact fun i H4 _ q => hG _ (fun _ e => q.1 _ _ e)
    · rintro i y H9 H4 hi ⟨sm, vs, bl⟩ ⟨rfl, er⟩
      have s4 : Same H H4 := Same.tr s1 sm
      obtain ⟨de, e1, ae⟩ := aB.get er
      obtain ⟨r, e2, sqe⟩ := paired_get pr e1
      obtain ⟨ap, us, rfl, nap, hap, aap⟩ := sqe.at ae
      have neD : ap ≠ Dm := by
        rcases hap with h | h
        · exact ne_of_none (s1 _ _ h) hDm
        · exact ne_of_none (s1 _ _ h) hDm
      have aap4 := aap.mono (Same.but (m := m) s4)
      refine ⟨rfl, ?_⟩
      refine ⟨_, rfl, ?_⟩
      dsimp only [tNil]
      refine tuple_any (m := m) (ds := rE r) (s4 _ _ hm) nap (hap.same s4) aap4 (fun p H6 s6 hp ap6 => ?_)
      have bl6 := bl.same s6
      have np : p ≠ Dm := by
        rcases hp with rfl | hp
        · exact neD
        · exact fun z => by
            rw [z, bl.2.1] at hp
            cases hp
      have apD : At Dm H6 (.ref p) (rowD r) := by
        cases ap6 with
        | tup n e q => exact .tup np e (all_rE q)
      refine ⟨vs, bl6.2.1, ?_, ?_, vs ++ [.ref p], ?_⟩
      · rw [bl.len, List.length_map, List.length_take]
        exact small6 (by omega)
      · intro b u e
        rw [upd_ne (ne_of_none e hDm)]
        exact s6 _ _ (sm _ _ e)
      · rw [take_succ' e2, List.map_append]
        exact bl6.push ap6 apD
    · rintro H4 ⟨s4, vs, bl⟩
      rw [lub, List.take_length] at bl
      have s5 : Same H H4 := Same.tr s1 s4
      refine ⟨_, _, rfl, .inl ⟨SqL.of bl.2.1, fun q2 hq2 => ?_⟩⟩
      have a2 := bl.tup (s5 _ _ hm) hq2
      have s6 := Same.tr s5 (same_new (o := .tup vs) hq2)
      have a1 := aq.mono (Same.but (m := m) (Same.tr s4 (same_new (o := .tup vs) hq2)))
      generalize upd H4 q2 (.tup vs) = H5 at a1 a2 s6 ⊢
      clear bl
      obtain ⟨_, ua, ea, nA, hA1, aA⟩ := at_tup a1
      cases ea
      have lua : ua.length = ss.length := by
        rw [aA.length, List.length_map]
      -- the way out by an error
      have bad : ∀ {σ : L2.St} {H6 : Hp}, Same H H6 → (∀ (d : Addr) (H' : Hp), Same H H' → H' d = some (.xd [(fld, .non)]) → E (.ref CP) (some d) H') → tMkO CP (spInit K) [.non] tNil σ H6 (fun cls d H' => E cls d H') := fun {σ H6} s6 k =>
        ⟨(by show 0 ≤ 1000; decide), rs_done T3 fun d H' _ s' e => k d H' (Same.tr s6 s') e⟩
      -- whether it waits
      have look : ∀ (j : Nat) (Q' : VK), (∀ H6, Same H5 H6 → Q' (.bl (!decide (j ∈ waitL ss xs xs.length))) H6) → tOp (rIn K true) (tVar 2) (tCall spWait [] E0 (tCons (tVar 0) (tCons (tVar 1) tNil))) [some (.ref q1), some (.ref q2), some (.int (j : Int)), none] H5 Q' := fun j Q' kk => by
        refine ⟨_, rfl, _, rfl, _, rfl, m, q1, q2, ss, xs, rfl, a1, a2, hle, (by omega), fun q3 H6 _ s7 hl => ?_⟩
        refine ⟨_, _, rfl, .inl (SqL.of hl), rfl, flat_nats _, ?_⟩
        rw [inV_nat]
        exact kk _ s7
      refine ⟨_, rfl, _, rfl, _, _, rfl, (Or.inr ⟨_, SqT.of hA1, rfl⟩), ?_⟩
      rcases k with ⟨j, p, sc, r, v, rfl, hsc, hr', hp, hv, k⟩ | ⟨hbad, k⟩
      · have hj : j < ss.length := (List.getElem?_eq_some_iff.mp hsc).1
        refine ⟨_, _, rfl, .inl ⟨_, rfl, ?_⟩⟩
        rw [decide_eq_true (show (0 : Int) ≤ (j : Int) ∧ (j : Int) < (ua.length : Int) by omega)]
        refine ⟨_, rfl, iteF ?_⟩
        refine look j _ fun H6 s7 => ⟨_, rfl, ?_⟩
        rw [decide_eq_true (waitL_has hsc hr' (by have := (List.getElem?_eq_some_iff.mp hv).1; omega) (by omega))]
        refine iteF ?_
        refine ⟨_, rfl, _, rfl, _, rfl, m, q1, q2, o, ss, xs, j, p, sc, r, v, (Same.tr s6 s7) _ _ hm, rfl, a1.mono (Same.but s7), a2.mono (Same.but s7), (by omega), hsc, hr', hp, hv, fun q H' _ s8 a8 => ?_⟩
        exact k q H' (Same.tr s6 (Same.tr s7 s8)) a8
      · rcases hbad with ⟨i, rfl, hi⟩ | ⟨b, rfl⟩ | ⟨T9, ty, kn⟩ | ⟨j, rfl, hj, hw⟩
        · refine ⟨_, _, rfl, .inl ⟨_, rfl, ?_⟩⟩
          rw [decide_eq_false (show ¬ ((0 : Int) ≤ i ∧ i < (ua.length : Int)) by rw [lua]; exact hi)]
          exact ⟨_, rfl, iteT (bad s6 k)⟩
        · exact ⟨_, _, rfl, .inr (.inl ⟨_, rfl, _, rfl, iteT (bad s6 k)⟩)⟩
        · exact ⟨_, _, rfl, .inr (.inr ⟨T9, fun K => ty K _ s6, kn, _, rfl, iteT (bad s6 k)⟩)⟩
        · refine ⟨_, _, rfl, .inl ⟨_, rfl, ?_⟩⟩
          rw [decide_eq_true (show (0 : Int) ≤ (j : Int) ∧ (j : Int) < (ua.length : Int) by omega)]
          refine ⟨_, rfl, iteF ?_⟩
          refine look j _ fun H6 s7 => ⟨_, rfl, ?_⟩
          rw [decide_eq_false hw]
          exact iteT (bad (Same.tr s6 s7) k)
end
end C78

set_option Elab.async false
set_option maxRecDepth 100000
set_option maxHeartbeats 4000000
set_option linter.all false
namespace C78
open PySem L2 My M78
abbrev sMis : Stmt := top 39
abbrev nMis : List Str := ["_law_deed", "_law_found", "e"]
theorem scMis : FnScope nMis ["_law_deed"] (defScope sMis) := ⟨rfl, rfl, rfl, by decide +kernel, rfl, by decide +kernel, by decide +kernel⟩

theorem takes_len {X : Cx} {W : WX} {n : Nat} (tk : Takes X W) (hn : X.N.length = n) : Takes X (fun c d σ H => σ.length = n → W c d σ H) := fun u s' ⟨a, B, sI, pins, σ, H, cls, d, e, I, nb, up, sky, na, os, ag, w⟩ =>
  tk u s' ⟨a, B, sI, pins, σ, H, cls, d, e, I, nb, up, sky, na, os, ag, w (I.len.trans hn)⟩
/-- what _law_misused makes of what it calls -/
def TMis (CP : Addr) : (XK → Hp → VK → Prop) → Hp → VK → Prop := fun tl H Q =>
  ∀ Q' : VK, tl (fun cls d H' => ∃ dd, cls = .ref CP ∧ d = some dd ∧ H' dd = some (.xd [(fld, .non)]) ∧ Q (.bl true) H') H Q'
theorem mis_gives {X : Cx} {CE CD CP fI g : Addr} {cdg : Value} {q : Str} (T3 : Cls3 X.K X.mg CE CD CP fI) (hisi : X.mg "isinstance" = none) :
    LamX.GivesTo X nMis "_law_misused" (defScope sMis) g cdg (defBody sMis) "_law_deed" q (TMis CP) := by
  intro f c' s H Q tl act hc h
  have nd := scMis.nd
  refine ⟨_, pss_cons (ps_asg pe_bl (pg_name (i := 1) nd rfl (Or.inl rfl)))
    (pss_cons (ps_try_manyA (X := (cxOf C8.CX0 X.prog X.w X.K X.mg X.base nMis "_law_misused" (defScope sMis) g cdg X.A X.stack s H C8.E0).nox)
        (tb := fun W D σ H => ∃ Ech : XK, (∀ cls d σ' H', σ'.length = 3 → Ech cls d H' → W cls d σ' H') ∧ σ[0]? = some (some (.ref f)) ∧ H c' = some (LamX.CodeO c' q) ∧ tl Ech H (fun _ H' => D.nx σ H'))
        rfl rfl nd LamX.takes0 (fun W pn xe tk _ => ?_)
        (.cons (i := 2) ⟨rfl, by decide, .inl T3.gP⟩ rfl rfl (fun a oe cls d pn hz hf => pss_one (ps_asg (pe_and (pe_callB (call_isP hz hf) (by rfl) hisi (by decide +kernel) (pa_cons (pv 2) (pa_cons (pe_gR rfl T3.gD) pa_nil))) (pe_one (pe_cmpR op_isN (pe_xf (C := CP) ⟨T3.ec.hg, T3.ec.hk, T3.ec.hs, T3.ec.hd⟩ T3.no hz hf (pv 2)) pe_non (nomark _)))) (pg_name (i := 1) nd rfl (Or.inl rfl))))
        (.cons (i := 2) ⟨rfl, by decide, .inl T3.gE⟩ rfl rfl (fun a oe cls d pn hz hf => pss_one (ps_asg pe_bl (pg_name (i := 1) nd rfl (Or.inl rfl)))) .nil)))
    (pss_one (ps_ret (pv 1)))), ?_⟩
  · refine ⟨fun pins s' σ H' D I h' => ?_⟩
    obtain ⟨Ech, hW, h1, h2, h3⟩ := h'
    exact (pss_one (ps_expr (act (fun c d σ H => σ.length = 3 → W c d σ H) pn xe Ech _ _ (takes_len tk rfl) (fun cls d σ' H' h hl => hW cls d σ' H' hl h)))).run pins s' σ H' D I ⟨h1, h2, h3⟩
  · refine ⟨fun cls d H' => ∃ dd, cls = .ref CP ∧ d = some dd ∧ H' dd = some (.xd [(fld, .non)]) ∧ Q (.bl true) H', ?_, rfl, hc, ?_⟩
    · rintro cls d σ' H' hl ⟨dd, rfl, rfl, e, q⟩
      refine ⟨true, T3.exm, fun _ a ha => ?_, fun z => by cases z⟩
      match σ', hl with
      | [x0, x1, x2], _ =>
        refine ⟨_, rfl, CP, dd, _, _, _, true, rfl, rfl, rfl, e, T3.ec, .own _, T3.kit, ?_⟩
        refine ⟨_, rfl, iteT ?_⟩
        refine ⟨_, rfl, rfl, rfl, dd, _, _, rfl, e, (by rw [lookup_put, if_pos rfl]), rfl, ?_⟩
        exact ⟨_, rfl, q⟩
    · exact h _
end C78

set_option Elab.async false
set_option maxRecDepth 100000
set_option maxHeartbeats 4000000
set_option linter.all false
/-! The law's own def, run where no repr is under way; repr of data. -/
namespace My
open PySem PySem.Spec PyProof.Rows L2
/-- as FnOk, of calls that no repr is around -/
structure FnG (P : Program) (w : World) (K : PySem.W.Frag) (mg : Str → Option Value) (base : Heap) (k : Nat) (f : Addr) (fd : FuncData) (ps : List Str) (sp : Sp) : Prop where
  len : ∀ vs H Q E, sp vs H Q E → vs.length = ps.length
  run : ∀ (A : Around) (outer : List Env) (s : Shared) (H : Hp) (args : Args) (us : List Value) (vs : List V) (Q : VK) (E : XK), A.guards = some [] → Room k A → Env0 P w K mg base A outer s H → BindsTo s fd args (ps.zip us) → Vals vs us → sp vs H Q E →
    codeAny (model P w) A (.call (.ref f) args) (CR CX0 outer P w H s Q E) s
theorem FnG.of {P : Program} {w : World} {K : PySem.W.Frag} {mg : Str → Option Value} {base : Heap} {k : Nat} {f : Addr} {fd : FuncData} {ps : List Str} {sp : Sp}
    (len : ∀ vs H Q E, sp vs H Q E → vs.length = ps.length)
    (h : ∀ A : Around, A.guards = some [] → FnOk P w K mg base CX0 k f fd ps (fun vs H Q E => sp vs H Q E)) : FnG P w K mg base k f fd ps sp :=
  ⟨len, fun A outer s H args us vs Q E hg hr e0 hb r hsp => (h A hg).run A outer s H args us vs Q E hr e0 hb r hsp⟩
theorem Fun.okG {P : Program} {w : World} {K : PySem.W.Frag} {mg : Str → Option Value} {base : Heap} {x qual : Str} {st : Stmt} {f : Addr} {fd : FuncData} {N ps : List Str} {k : Nat} {sp : Sp} (F : Fun K x qual st f fd) (S : FnScope N ps (defScope st))
    (len : ∀ vs H Q E, sp vs H Q E → vs.length = ps.length)
    (hbody : ∀ (cdv : Value) (A : Around) (outer : List Env) (s : Shared) (H : Hp) (vs : List V) (Q : VK) (E : XK), A.guards = some [] → Room k (A.deeper (envOfC qual (defScope st) s.heap.objs.size f cdv)) → sp vs H Q E →
      ∃ t, PSs (cxOf CX0 P w K mg base N qual (defScope st) f cdv A outer s H E).nox (defBody st) t ∧ t { nx := fun _ H' => Q .non H', rt := Q } (start N vs) H) : FnG P w K mg base (k + 1) f fd ps sp := by
  obtain ⟨oc, od, kV, doc, pm, an, cdv, ct, osl, rfl, lk, hcd⟩ := F.ex
  refine ⟨len, fun A outer s H args us vs Q E hg hr e0 hb r hsp => ?_⟩
  have hl := len _ _ _ _ hsp
  have KX : K.In s.heap := e0.mod.kin.keeps fun b o e => (e0.bs b o e).1
  have lim : s.heap.NoLimit := e0.mod.nolimit.keeps fun b o e => (e0.bs b o e).1
  have kinds : ∀ y ∈ ps.zip us, (defScope st).names.lookup y.1 = some .local ∨ ((defScope st).names.lookup y.1 = some .cell ∧ ((cellsFrom (s.heap.objs.size + 1) (defScope st).names []).lookup y.1).isSome = true) := fun ⟨n, v⟩ hy => by
    rcases S.par n (List.of_mem_zip hy).1 with q | q
    · exact .inl q
    · exact .inr ⟨q, PySem.W.cellsFrom_some _ _ _ (.inl q)⟩
  refine codeAny_call_function hr.depth (KX _ _ lk) rfl S.co S.gen rfl (PySem.W.codeRec_of KX hcd) (hb _ _ _ _ ?_)
  refine wpAny_newFunctionEnv_cells S.kind kinds fun env he s1 x => ?_
  subst he
  refine ⟨lim.keeps x.toInCall.keep, codeAny_func ?_⟩
  obtain ⟨t, ht, hq⟩ := hbody cdv A outer s H vs Q E hg (hr.deeper _) hsp
  have I : Inv (cxOf CX0 P w K mg base N qual (defScope st) f cdv A outer s H E) [] (start N vs) H s1 := inv_start S hr.hd e0 hl r x
  refine wpAny_mono (ht.nox.run [] s1 (start N vs) H _ I hq) (fun fl s' hs => ?_) fun e s' hs => hs
  have fin : ∀ {σ' : L2.St} {H' : Hp} {v : V} {u : Value}, Inv (cxOf CX0 P w K mg base N qual (defScope st) f cdv A outer s H E) [] σ' H' s' → RelV v u → Q v H' → CE outer P w H s Q u s' :=
    fun {σ' H' v u} J rv q => ⟨v, H', J.os, J.bare, J.base, J.hok, rv, q⟩
  cases fl with
  | ret u =>
    obtain ⟨v, σ', H', J, rv, q⟩ := hs
    exact fin J rv q
  | next =>
    obtain ⟨σ', H', J, q⟩ := hs
    exact fin (v := V.non) (u := Value.none) J rfl q
  | brk =>
    obtain ⟨_, _, _, q⟩ := hs
    exact False.elim q
  | cont =>
    obtain ⟨_, _, _, q⟩ := hs
    exact False.elim q
theorem law_callG {P : Program} {w : World} {K : PySem.W.Frag} {mg mb : Str → Option Value} {k : Nat} {fa a : Addr} {fd : FuncData} {x : Str} {sp : Sp} {s₁ : Shared} {vs : List Value} {ns : List Int}
    (KX : K.In s₁.heap) (hns : s₁.heap.Ns mainGlobals mg) (hb : s₁.heap.Ns builtinsNs mb) (hbb : ∀ x : Str, x ≠ "__name__" → mb x = bootBuiltins x) (hlim : s₁.heap.NoLimit) (hg : s₁.gens = #[])
    (ha : s₁.heap.get? a = some { cls := .type "list", data := .seq vs.toArray }) (hi : IntsAre vs ns) (hl : ns.length ≤ sizeLine) (hr : Room k callerA)
    (F : ∀ base : Heap, K.In base → base.Ns mainGlobals mg → FnG P w K mg base k fa fd [x] sp) (hbind : ∀ (s : Shared) (u : Value), BindsTo s fd ⟨[u], []⟩ [(x, u)])
    (hsp : ∀ H : Hp, Only H → SqL K H a (ns.map V.int) → sp [.ref a] H (fun v _ => v = .bl true) fun _ _ _ => False) :
    codeAny (model P w) callerA (.call (.ref fa) ⟨[.ref a], []⟩) (fun r s' => r = .ok (.ret (.bool true)) ∧ OldK s₁.heap s'.heap ∧ s'.os = s₁.os ∧ AllBare s'.gens) s₁ := by
  have rv := vals_ints hi
  have lv := hi.length
  have core : ∀ H : Hp, Only H → SqL K H a (ns.map V.int) → HOk P w H s₁.heap → (∀ b, H b ≠ none → b = a) → (H a ≠ none → K.lookup a = none) →
      codeAny (model P w) callerA (.call (.ref fa) ⟨[.ref a], []⟩) (fun r s' => r = .ok (.ret (.bool true)) ∧ OldK s₁.heap s'.heap ∧ s'.os = s₁.os ∧ AllBare s'.gens) s₁ := by
    intro H hO hS hok hA hK
    have hid : ∀ {b : Addr} {o : Obj}, s₁.heap.get? b = some o → H b = none → (hidT s₁.heap H).get? b = some o := fun e n => hidT_get e n
    have noA : ∀ {b : Addr} {o : Obj} {es : Array DictEntry} {ep : Nat}, s₁.heap.get? b = some o → o.data = .dict es ep → H b = none := fun {b o es ep} e d => by
      cases q : H b with
      | none => rfl
      | some u =>
        have e' : b = a := hA b (by rw [q]; simp)
        subst e'
        rw [ha] at e
        cases e
        exact nomatch (show Data.seq vs.toArray _ = Data.dict es ep from d)
    have nsK : ∀ {b : Addr} {m : Str → Option Value}, s₁.heap.Ns b m → (hidT s₁.heap H).Ns b m := fun {b m} ⟨o, es, ep, e, d, r⟩ => ⟨o, es, ep, hid e (noA e d), d, r⟩
    have kb : K.In (hidT s₁.heap H) := fun b o e => hid (KX b o e) (by
      cases q : H b with
      | none => rfl
      | some u =>
        have e' : b = a := hA b (by rw [q]; simp)
        subst e'
        rw [hK (by rw [q]; simp)] at e
        cases e)
    have md : Mod K mg (hidT s₁.heap H) := ⟨kb, nsK hns, ⟨mb, nsK hb, hbb⟩, let ⟨mc, h1, h2⟩ := hlim; ⟨mc, nsK h1, h2⟩⟩
    have e0 : Env0 P w K mg (hidT s₁.heap H) callerA [] s₁ H := ⟨rfl, md, fun b o e => of_hidT e, Nat.le_of_eq (hidT_size _ _), trivial, fun b hb => absurd (show b ∈ ([] : List Addr) from hb) (by simp), hok, .of_eq hg⟩
    refine codeAny_mono ((F _ kb (nsK hns)).run callerA [] s₁ H ⟨[.ref a], []⟩ [.ref a] [.ref a] _ _ rfl hr e0 (hbind s₁ (.ref a)) (.cons rfl .nil) (hsp H hO hS)) fun r s' h => ?_
    cases r with
    | error e => exact False.elim h
    | ok fl =>
      cases fl with
      | next => exact False.elim h
      | brk => exact False.elim h
      | cont => exact False.elim h
      | ret u =>
        obtain ⟨v, H', os, bare, un, hok', r', q⟩ := h
        have q' : v = .bl true := q
        subst q'
        obtain rfl : u = Value.bool true := r'
        refine ⟨rfl, OldK.of_keep fun b o e => ?_, os, bare⟩
        cases q : H b with
        | none => exact un.keep b o e q (by intro z; exact absurd (show b ∈ ([] : List Addr) from z) (by simp)) (by simp)
        | some u =>
          rcases hO b with z | ⟨ob, xs, z⟩
          · rw [q] at z
            cases z
          · have z2 := un.frzs b ob _ z
            obtain ⟨e1, _⟩ := hok b _ z
            obtain ⟨e2, _⟩ := hok' b _ z2
            rw [e] at e1
            cases e1
            exact e2
  cases hk : K.lookup a with
  | some o =>
    have e := KX a o hk
    rw [ha] at e
    cases e
    exact core (fun _ => none) (fun _ => .inl rfl) (.inr ⟨_, vs.toArray, _, hk, rfl, rfl, rfl, by rw [List.size_toArray, lv]; exact hl, by simpa using rv⟩) (fun b u z => nomatch (show (none : Option HO) = some u from z)) (fun b z => absurd rfl z) fun z => absurd rfl z
  | none =>
    refine core (fun b => if b = a then some (.frz { cls := .type "list", data := .seq vs.toArray } (.lst (ns.map V.int))) else none) (fun b => ?_) (.inl (.inr ⟨{ cls := .type "list", data := .seq vs.toArray }, if_pos rfl⟩)) (fun b u z => ?_) (fun b z => ?_) fun _ => hk
    · by_cases hb : b = a
      · exact .inr ⟨_, _, if_pos hb⟩
      · exact .inl (if_neg hb)
    · by_cases hb : b = a
      · have z' := (if_pos hb).symm.trans z
        cases z'
        subst hb
        exact ⟨ha, by rw [List.length_map]; exact hl, vs, _, rv, ha⟩
      · have z' := (if_neg hb).symm.trans z
        cases z'
    · by_cases hb : b = a
      · exact hb
      · exact absurd (if_neg hb) z
theorem walk_ofG {l : PySem.W.OpenLaw} {n k : Nat} {q : Program} {loose : List Str} {XP : (Str → Option Value) → Heap → Prop} {YP : World → Heap → Prop} {d : DefRec} {K : Params → PySem.W.Frag} {sp : World → Sp} {x : Str}
    (hn : l.most = some n) (hn2 : n ≤ sizeLine) (hdf : d.params.defaults = []) (hr : Room k callerA)
    (hY : ∀ (w : World) (h : Heap), YP w h → (K w.params).In h)
    (F : ∀ (w : World) (mg : Str → Option Value) (fa : Addr) (h : Heap), (K w.params).In h → h.Ns mainGlobals mg → mg d.name = some (.ref fa) →
      ∃ fd : FuncData, (∀ (s : Shared) (u : Value), BindsTo s fd ⟨[u], []⟩ [(x, u)]) ∧
        ∀ base : Heap, (K w.params).In base → base.Ns mainGlobals mg → FnG l.prog w (K w.params) mg base k fa fd [x] (sp w))
    (hsp : ∀ (w : World) (H : Hp) (a : Addr) (ns : List Int), ns.length ≤ n → Only H → SqL (K w.params) H a (ns.map V.int) → sp w [.ref a] H (fun v _ => v = .bl true) fun _ _ _ => False) :
    PySem.W.WalkO q loose XP YP l.row.toRowW d [] (fun f vs => PySem.call f vs) := by
  refine Att.attach_call hn hdf fun w s₀ s₁ mg mb fa o pm cd doc a vs ns G Y ho hd hcd hmg hobj hints hlen hg => ?_
  have KX := hY w _ Y
  obtain ⟨fd, hb, hF⟩ := F w mg fa _ KX G.T.g hmg
  exact law_callG KX G.T.g G.T.b G.T.builtins G.T.nolimit hg hobj hints (Nat.le_trans hlen hn2) hr hF hb (fun H hO hS => hsp w H a ns hlen hO hS)
/-- repr(x) of data that stands in the heap -/
def rRepr (K : PySem.W.Frag) : List V → Hp → VK → Prop := fun xs H Q => ∃ (a : Addr) (d : PyData), xs = [.ref a] ∧ Dp K H (.ref a) d ∧ d.showable = true ∧ d.hasDict = false ∧ d.depth ≤ 60 ∧ d.shown.length ≤ sizeLine ∧ Q (.str d.shown) H
theorem call_repr {X : Cx} (hg : X.A.guards = some []) (hu : X.A.units + 64 < cLine) : CallR X (.builtin "repr") (rRepr X.K) := by
  intro pins s σ H xs us Q I r h
  obtain ⟨a, d, rfl, hd, hs, hnd, hdp, hsz, q⟩ := h
  cases r with
  | cons r1 rr =>
    cases rr
    obtain ⟨as, rd⟩ := Dp.reads I d _ _ hd r1
    cases (show _ = Value.ref a from r1)
    refine repr_of_reads' rd hs (fun z => by rw [hnd] at z; cases z) hg (by omega) (fun b o e => e) (fun h' u tk hk => ?_) hsz
    exact ⟨.str d.shown, H, I.kept (t' := tk) hk, ⟨_, rfl⟩, q⟩
end My

set_option Elab.async false
set_option maxRecDepth 100000
set_option maxHeartbeats 4000000
set_option linter.all false
/-! The law's own def, run where no repr is under way, with the table of its code object (it makes lambdas). -/
namespace My
open PySem PySem.Spec PyProof.Rows L2
/-- as Fun.okG, the def's code object known -/
theorem Fun.okH {P : Program} {w : World} {K : PySem.W.Frag} {mg : Str → Option Value} {base : Heap} {x qual : Str} {st : Stmt} {f : Addr} {fd : FuncData} {N ps : List Str} {k : Nat} {sp : Sp} {cv : Value} (F : Fun K x qual st f fd) (S : FnScope N ps (defScope st))
    (hcv : fd.code = cv) (len : ∀ vs H Q E, sp vs H Q E → vs.length = ps.length)
    (hbody : ∀ (A : Around) (outer : List Env) (s : Shared) (H : Hp) (vs : List V) (Q : VK) (E : XK), A.guards = some [] → Room k (A.deeper (envOfC qual (defScope st) s.heap.objs.size f cv)) → sp vs H Q E →
      ∃ t, PSs (cxOf CX0 P w K mg base N qual (defScope st) f cv A outer s H E).nox (defBody st) t ∧ t { nx := fun _ H' => Q .non H', rt := Q } (start N vs) H) : FnG P w K mg base (k + 1) f fd ps sp := by
  obtain ⟨oc, od, kV, doc, pm, an, cdv, ct, osl, rfl, lk, hcd⟩ := F.ex
  obtain rfl : cdv = cv := hcv
  refine ⟨len, fun A outer s H args us vs Q E hg hr e0 hb r hsp => ?_⟩
  refine LamX.run_ofS (N := N) lk hcd S hr e0 hb r (len _ _ _ _ hsp) fun hr' => ?_
  obtain ⟨t, ht, hq⟩ := hbody A outer s H vs Q E hg hr' hsp
  exact ⟨t, ht.nox, hq⟩
theorem law_callH {P : Program} {w : World} {K : PySem.W.Frag} {mg mb : Str → Option Value} {k : Nat} {fa a c p : Addr} {fd : FuncData} {x : Str} {sp : Sp} {s₁ : Shared} {vs : List Value} {ns : List Int}
    (KX : K.In s₁.heap) (hns : s₁.heap.Ns mainGlobals mg) (hb : s₁.heap.Ns builtinsNs mb) (hbb : ∀ x : Str, x ≠ "__name__" → mb x = bootBuiltins x) (hlim : s₁.heap.NoLimit) (hg : s₁.gens = #[])
    (hT : s₁.heap.get? p = some { cls := .none, data := .fields #[] }) (nT : K.lookup p = none) (C : PySem.W.CodeHd s₁.heap c p)
    (hbm : ∃ (bm : Addr) (ob : Obj), mg "__builtins__" = some (.ref bm) ∧ bm ≠ builtinsNs ∧ s₁.heap.get? bm = some ob ∧ ob.cls = .type "module" ∧ ob.dict = some builtinsNs ∧ ob.data = .plain)
    (ha : s₁.heap.get? a = some { cls := .type "list", data := .seq vs.toArray }) (hi : IntsAre vs ns) (hl : ns.length ≤ sizeLine) (hr : Room k callerA)
    (F : ∀ base : Heap, K.In base → base.Ns mainGlobals mg → LamX.TabB base mg c p → FnG P w K mg base k fa fd [x] sp) (hbind : ∀ (s : Shared) (u : Value), BindsTo s fd ⟨[u], []⟩ [(x, u)])
    (hsp : ∀ H : Hp, H p = some (.tbl #[]) → SqL K H a (ns.map V.int) → sp [.ref a] H (fun v _ => v = .bl true) fun _ _ _ => False) :
    codeAny (model P w) callerA (.call (.ref fa) ⟨[.ref a], []⟩) (fun r s' => r = .ok (.ret (.bool true)) ∧ OldK s₁.heap s'.heap ∧ s'.os = s₁.os ∧ AllBare s'.gens) s₁ := by
  have rv := vals_ints hi
  have lv := hi.length
  have nap : a ≠ p := fun z => by
    rw [z, hT] at ha
    have := congrArg Obj.data (Option.some.inj ha)
    cases this
  have core : ∀ H : Hp, H p = some (.tbl #[]) → (∀ b, H b = none ∨ b = p ∨ ∃ o xs, H b = some (.frz o (.lst xs))) → SqL K H a (ns.map V.int) → HOk P w H s₁.heap → (∀ b, H b ≠ none → b = a ∨ b = p) → (H a ≠ none → K.lookup a = none) →
      codeAny (model P w) callerA (.call (.ref fa) ⟨[.ref a], []⟩) (fun r s' => r = .ok (.ret (.bool true)) ∧ OldK s₁.heap s'.heap ∧ s'.os = s₁.os ∧ AllBare s'.gens) s₁ := by
    intro H hH hO hS hok hA hK
    have hid : ∀ {b : Addr} {o : Obj}, s₁.heap.get? b = some o → H b = none → (hidT s₁.heap H).get? b = some o := fun e n => hidT_get e n
    have free : ∀ {b : Addr} {o : Obj}, s₁.heap.get? b = some o → (∀ us n, o.data ≠ .seq us n) → o.data ≠ .fields #[] → H b = none := fun {b o} e h1 h2 => by
      cases q : H b with
      | none => rfl
      | some u =>
        rcases hA b (by rw [q]; simp) with rfl | rfl
        · rw [ha] at e
          cases e
          exact absurd rfl (h1 _ _)
        · rw [hT] at e
          cases e
          exact absurd rfl h2
    have noA : ∀ {b : Addr} {o : Obj} {es : Array DictEntry} {ep : Nat}, s₁.heap.get? b = some o → o.data = .dict es ep → H b = none := fun {b o es ep} e d =>
      free e (fun us n z => by rw [d] at z; cases z) (fun z => by rw [d] at z; cases z)
    have nsK : ∀ {b : Addr} {m : Str → Option Value}, s₁.heap.Ns b m → (hidT s₁.heap H).Ns b m := fun {b m} ⟨o, es, ep, e, d, r⟩ => ⟨o, es, ep, hid e (noA e d), d, r⟩
    have kb : K.In (hidT s₁.heap H) := fun b o e => hid (KX b o e) (by
      cases q : H b with
      | none => rfl
      | some u =>
        rcases hA b (by rw [q]; simp) with rfl | rfl
        · rw [hK (by rw [q]; simp)] at e
          cases e
        · rw [nT] at e
          cases e)
    have md : Mod K mg (hidT s₁.heap H) := ⟨kb, nsK hns, ⟨mb, nsK hb, hbb⟩, let ⟨mc, h1, h2⟩ := hlim; ⟨mc, nsK h1, h2⟩⟩
    have TB : LamX.TabB (hidT s₁.heap H) mg c p := by
      refine ⟨?_, ?_, fun z => ?_⟩
      · obtain ⟨o, us, file, tf, flags, tg, inF, text, tt, e1, r1, r2, r3, r⟩ := C
        refine ⟨o, us, file, tf, flags, tg, inF, text, tt, hid e1 (free e1 (fun vs n z => ?_) fun z => ?_), r1, r2, r3, r⟩
        · rw [r2] at z
          cases z
        · rw [r2] at z
          cases z
          simp at r3
      · obtain ⟨bm, ob, b1, b2, b3, b4, b5, b6⟩ := hbm
        have nG : bm ≠ mainGlobals := fun q => by
          obtain ⟨o, es, ep, e, hd, _⟩ := hns
          rw [q, e] at b3
          cases b3
          rw [hd] at b6
          cases b6
        have nP : bm ≠ p := fun q => by
          rw [q, hT] at b3
          cases b3
          cases b6
        refine ⟨bm, ob, b1, b2, nG, nP, hid b3 (free b3 (fun vs n z => ?_) fun z => ?_), b4, b5, b6⟩
        · rw [b6] at z
          cases z
        · rw [b6] at z
          cases z
      · obtain ⟨o, es, ep, e, hd, _⟩ := hns
        rw [z, hT] at e
        cases e
        cases hd
    have e0 : Env0 P w K mg (hidT s₁.heap H) callerA [] s₁ H := ⟨rfl, md, fun b o e => of_hidT e, Nat.le_of_eq (hidT_size _ _), trivial, fun b hb => absurd (show b ∈ ([] : List Addr) from hb) (by simp), hok, .of_eq hg⟩
    refine codeAny_mono ((F _ kb (nsK hns) TB).run callerA [] s₁ H ⟨[.ref a], []⟩ [.ref a] [.ref a] _ _ rfl hr e0 (hbind s₁ (.ref a)) (.cons rfl .nil) (hsp H hH hS)) fun r s' h => ?_
    cases r with
    | error e => exact False.elim h
    | ok fl =>
      cases fl with
      | next => exact False.elim h
      | brk => exact False.elim h
      | cont => exact False.elim h
      | ret u =>
        obtain ⟨v, H', os, bare, un, hok', r', q⟩ := h
        have q' : v = .bl true := q
        subst q'
        obtain rfl : u = Value.bool true := r'
        have key : ∀ b o, b ≠ p → s₁.heap.get? b = some o → s'.heap.get? b = some o := fun b o nb e => by
          cases q : H b with
          | none => exact un.keep b o e q (by intro z; exact absurd (show b ∈ ([] : List Addr) from z) (by simp)) (by simp)
          | some u =>
            rcases hO b with z | z | ⟨ob, xs, z⟩
            · rw [q] at z
              cases z
            · exact absurd z nb
            · have z2 := un.frzs b ob _ z
              obtain ⟨e1, _⟩ := hok b _ z
              obtain ⟨e2, _⟩ := hok' b _ z2
              rw [e] at e1
              cases e1
              exact e2
        obtain ⟨more, zm⟩ := un.tbls p #[] hH
        have hm := hok' p _ zm
        refine ⟨rfl, ⟨fun b o e => ?_, fun b o e => ?_⟩, os, bare⟩
        · by_cases hb : b = p
          · subst hb
            rw [hT] at e
            cases e
            exact .inr (.inl ⟨(C.tab hT).isCodeTable, rfl, #[], more, rfl, hm⟩)
          · exact .inl (key b o hb e)
        · by_cases hb : b = p
          · subst hb
            exact ⟨_, hm⟩
          · exact ⟨o, key b o hb e⟩
  cases hk : K.lookup a with
  | some o =>
    have e := KX a o hk
    rw [ha] at e
    cases e
    refine core (fun b => if b = p then some (.tbl #[]) else none) (if_pos rfl) (fun b => ?_) (.inr ⟨_, vs.toArray, _, hk, rfl, rfl, rfl, by rw [List.size_toArray, lv]; exact hl, by simpa using rv⟩) (fun b u z => ?_) (fun b z => ?_) fun z => absurd (show (if a = p then some (HO.tbl #[]) else none) = none from if_neg nap) z
    · by_cases hb : b = p
      · exact .inr (.inl hb)
      · exact .inl (if_neg hb)
    · by_cases hb : b = p
      · have z' := (if_pos hb).symm.trans z
        cases z'
        subst hb
        exact hT
      · have z' := (if_neg hb).symm.trans z
        cases z'
    · by_cases hb : b = p
      · exact .inr hb
      · exact absurd (if_neg hb) z
  | none =>
    refine core (fun b => if b = a then some (.frz { cls := .type "list", data := .seq vs.toArray } (.lst (ns.map V.int))) else if b = p then some (.tbl #[]) else none) ((if_neg (Ne.symm nap)).trans (if_pos rfl)) (fun b => ?_)
      (.inl (.inr ⟨{ cls := .type "list", data := .seq vs.toArray }, if_pos rfl⟩)) (fun b u z => ?_) (fun b z => ?_) fun _ => hk
    · by_cases hb : b = a
      · exact .inr (.inr ⟨_, _, if_pos hb⟩)
      · by_cases hb2 : b = p
        · exact .inr (.inl hb2)
        · exact .inl ((if_neg hb).trans (if_neg hb2))
    · by_cases hb : b = a
      · have z' := (if_pos hb).symm.trans z
        cases z'
        subst hb
        exact ⟨ha, by rw [List.length_map]; exact hl, vs, _, rv, ha⟩
      · have z1 := (if_neg hb).symm.trans z
        by_cases hb2 : b = p
        · have z' := (if_pos hb2).symm.trans z1
          cases z'
          subst hb2
          exact hT
        · have z' := (if_neg hb2).symm.trans z1
          cases z'
    · by_cases hb : b = a
      · exact .inl hb
      · by_cases hb2 : b = p
        · exact .inr hb2
        · exact absurd ((if_neg hb).trans (if_neg hb2)) z
theorem no_tab {K : PySem.W.Frag} {p : Addr} {h : Heap} (X : K.In h) (hT : h.get? p = some { cls := .none, data := .fields #[] }) (hK : PySem.W.noTabs K = true) : K.lookup p = none := by
  cases e : K.lookup p with
  | none => rfl
  | some o =>
    have h1 := X p o e
    rw [hT] at h1
    cases h1
    have h2 := List.all_eq_true.mp hK _ (PySem.W.mem_of_lookupK e)
    exact absurd (show false = true from h2) Bool.false_ne_true
/-- the end of a law whose def makes lambdas and calls repr -/
theorem walk_ofH {l : PySem.W.OpenLaw} {n k : Nat} {q : Program} {loose : List Str} {XP : (Str → Option Value) → Heap → Prop} {YP : World → Heap → Prop} {d : DefRec} {K : Params → PySem.W.Frag} {sp : World → Addr → Sp} {x : Str}
    (hn : l.most = some n) (hn2 : n ≤ sizeLine) (hdf : d.params.defaults = []) (hr : Room k callerA)
    (hY : ∀ (w : World) (h : Heap), YP w h → (K w.params).In h) (hd : d ∈ recsOf q) (hK : ∀ w : World, PySem.W.noTabs (K w.params) = true)
    (F : ∀ (w : World) (mg : Str → Option Value) (fa c p : Addr) (h : Heap), (K w.params).In h → h.Ns mainGlobals mg → mg d.name = some (.ref fa) → (∀ o fd, h.get? fa = some o → o.data = .func fd → fd.code = .ref c) →
      ∃ fd : FuncData, (∀ (s : Shared) (u : Value), BindsTo s fd ⟨[u], []⟩ [(x, u)]) ∧
        ∀ base : Heap, (K w.params).In base → base.Ns mainGlobals mg → LamX.TabB base mg c p → FnG l.prog w (K w.params) mg base k fa fd [x] (sp w p))
    (hsp : ∀ (w : World) (H : Hp) (a p : Addr) (ns : List Int), ns.length ≤ n → H p = some (.tbl #[]) → SqL (K w.params) H a (ns.map V.int) → sp w p [.ref a] H (fun v _ => v = .bl true) fun _ _ _ => False) :
    PySem.W.WalkO q loose XP YP l.row.toRowW d [] (fun f vs => PySem.call f vs) := by
  refine Att.attach_call hn hdf fun w s₀ s₁ mg mb fa o pm cd doc a vs ns G Y ho hd2 hcd hmg hobj hints hlen hg => ?_
  have KX := hY w _ Y
  obtain ⟨a2, o2, fd2, c, p, t1, t2, t3, t4, t5, t6⟩ := G.T.tab d hd
  rw [hmg] at t1
  cases t1
  obtain ⟨fd, hb, hF⟩ := F w mg fa c p _ KX G.T.g hmg (fun o fd e1 e2 => by
    rw [t2] at e1
    cases e1
    rw [t3] at e2
    cases e2
    exact t4)
  exact law_callH KX G.T.g G.T.b G.T.builtins G.T.nolimit hg t6.2 (no_tab KX t6.2 (hK w)) (.of t5 t6) G.T.bmain hobj hints (Nat.le_trans hlen hn2) hr hF hb (fun H hH hS => hsp w H a p ns hlen hH hS)
end My

set_option Elab.async false
set_option maxRecDepth 100000
set_option maxHeartbeats 4000000
set_option linter.all false
namespace C78
open PySem L2 My M78

open LamX (ExtN Tabs TabS)
mutual
theorem At.extN {m : Addr} {H H' : Hp} (b : ExtN H H') : ∀ {v : V} {d : PyData}, At m H v d → At m H' v d
  | _, _, .non => .non
  | _, _, .bl k => .bl k
  | _, _, .int i => .int i
  | _, _, .str x => .str x
  | _, _, .lst n h q => .lst n (b _ _ h (fun _ z => by cases z)) (AtAll.extN b q)
  | _, _, .tup n h q => .tup n (b _ _ h (fun _ z => by cases z)) (AtAll.extN b q)
theorem AtAll.extN {m : Addr} {H H' : Hp} (b : ExtN H H') : ∀ {vs : List V} {ds : List PyData}, AtAll m H vs ds → AtAll m H' vs ds
  | _, _, .nil => .nil
  | _, _, .cons h q => .cons (At.extN b h) (AtAll.extN b q)
end
theorem Drw.extN {H H' : Hp} {st c : Addr} {ns : List Int} (h : Drw H st c ns) (b : ExtN H H') : Drw H' st c ns := by
  obtain ⟨hc, n, v, k, h0, hs⟩ := h
  exact ⟨b _ _ hc (fun _ z => by cases z), n, v, k, h0, b _ _ hs (fun _ z => by cases z)⟩
theorem Tabs.but {T : List (Addr × Str)} {H H' : Hp} {st c : Addr} {ns : List Int} (h : Tabs T H) (dr : Drw H st c ns) (b : But st H H') : Tabs T H' := fun p hp => by
  obtain ⟨_, _, _, _, _, hs⟩ := dr
  obtain ⟨ps, h1, h2, h3⟩ := h p hp
  refine ⟨ps, b _ _ h1 (fun z => ?_), h2, fun pos cv hc => ?_⟩
  · rw [z, hs] at h1
    cases h1
  · obtain ⟨q, e1, e2⟩ := h3 pos cv hc
    refine ⟨q, e1, b _ _ e2 (fun z => ?_)⟩
    rw [z, hs] at e2
    cases e2
/-- may be shown: depth at most n, weight at most W -/
def Sh (n W : Nat) (d : PyData) : Prop := d.showable = true ∧ d.hasDict = false ∧ d.leavesShort 8 = true ∧ d.depth ≤ n ∧ d.weight ≤ W
theorem Sh.all {n W : Nat} : ∀ {ds : List PyData}, (∀ x ∈ ds, Sh n W x) → PyData.showableAll ds = true ∧ PyData.hasDictAll ds = false ∧ PyData.leavesShortAll 8 ds = true ∧ PyData.depthAll ds ≤ n ∧ PyData.weightAll ds ≤ ds.length * (W + 1)
  | [], _ => ⟨rfl, rfl, rfl, Nat.zero_le _, Nat.zero_le _⟩
  | x :: r, h => by
    obtain ⟨a1, a2, a3, a4, a5⟩ := h x (List.mem_cons_self ..)
    obtain ⟨b1, b2, b3, b4, b5⟩ := Sh.all (ds := r) fun y hy => h y (List.mem_cons_of_mem _ hy)
    refine ⟨?_, ?_, ?_, ?_, ?_⟩
    · simp only [PyData.showableAll, a1, b1, Bool.and_self]
    · simp only [PyData.hasDictAll, a2, b2, Bool.or_self]
    · simp only [PyData.leavesShortAll, a3, b3, Bool.and_self]
    · simp only [PyData.depthAll]
      omega
    · simp only [PyData.weightAll, List.length_cons, Nat.add_mul, Nat.one_mul]
      omega
theorem Sh.sq {n W L : Nat} {d : PyData} {ds : List PyData} (s : Sq2 d ds) (hl : ds.length ≤ L) (h : ∀ x ∈ ds, Sh n W x) : Sh (n + 1) (L * (W + 1)) d := by
  obtain ⟨b1, b2, b3, b4, b5⟩ := Sh.all h
  have b6 : ds.length * (W + 1) ≤ L * (W + 1) := Nat.mul_le_mul_right _ hl
  rcases s with rfl | rfl
  · refine ⟨?_, ?_, ?_, ?_, ?_⟩
    · simpa only [PyData.showable] using b1
    · simpa only [PyData.hasDict] using b2
    · simpa only [PyData.leavesShort] using b3
    · simp only [PyData.depth]
      omega
    · simp only [PyData.weight]
      omega
  · refine ⟨?_, ?_, ?_, ?_, ?_⟩
    · simpa only [PyData.showable] using b1
    · simpa only [PyData.hasDict] using b2
    · simpa only [PyData.leavesShort] using b3
    · simp only [PyData.depth]
      omega
    · simp only [PyData.weight]
      omega
theorem Sh.word (v : Wd) : Sh 0 9 (.str (wS v)) := by cases v <;> exact ⟨rfl, rfl, by decide +kernel, by decide, by decide +kernel⟩
theorem Sh.bool (b : Bool) : Sh 0 9 (.bool b) := by cases b <;> exact ⟨rfl, rfl, by decide +kernel, by decide, by decide +kernel⟩
theorem Sh.int {i : Int} (h0 : 0 ≤ i) (h8 : i ≤ 8) : Sh 0 9 (.int i) := by
  have : i = 0 ∨ i = 1 ∨ i = 2 ∨ i = 3 ∨ i = 4 ∨ i = 5 ∨ i = 6 ∨ i = 7 ∨ i = 8 := by omega
  rcases this with rfl | rfl | rfl | rfl | rfl | rfl | rfl | rfl | rfl <;> exact ⟨by decide +kernel, rfl, by decide +kernel, by decide, by decide +kernel⟩
theorem Sh.repr {K : PySem.W.Frag} {m a : Addr} {H : Hp} {d : PyData} {n W : Nat} {Q : VK} (h : Sh n W d) (hn : n ≤ 60) (hW : W ≤ 1000) (ha : At m H (.ref a) d) (q : Q (.str d.shown) H) : rRepr K [.ref a] H Q := by
  obtain ⟨a1, a2, a3, a4, a5⟩ := h
  refine ⟨a, d, rfl, ha.dp, a1, a2, by omega, ?_, q⟩
  have := PyData.shown_le 8 (by decide) d a3
  exact Nat.le_of_lt (small6 (by omega))
theorem paired_mem {α β : Type} {R : α → β → Prop} {xs : List α} {ys : List β} {y : β} (h : Paired R xs ys) (hy : y ∈ ys) : ∃ x ∈ xs, R x y := by
  obtain ⟨i, hi, e⟩ := List.getElem_of_mem hy
  obtain ⟨x, e1, r⟩ := paired_get h (i := i) (y := y) (by rw [List.getElem?_eq_getElem hi, e])
  exact ⟨x, List.mem_of_getElem? e1, r⟩
theorem ScIn.sh {ss : List (List Wd)} {d : PyData} (h : ScIn ss d) (l4 : ss.length ≤ 4) (ok : ∀ sc ∈ ss, okScr sc) : Sh 2 324 d := by
  obtain ⟨ds, s, p⟩ := h
  refine Sh.sq (n := 1) (W := 80) (L := 4) s (by rw [← paired_len p]; exact l4) fun x hx => ?_
  obtain ⟨sc, hsc, sx⟩ := paired_mem p hx
  refine Sh.sq (n := 0) (W := 9) (L := 8) sx ?_ fun y hy => ?_
  · unfold scE
    rw [List.length_map]
    exact (ok sc hsc).1
  · obtain ⟨v, _, rfl⟩ := List.mem_map.mp hy
    exact Sh.word v
theorem SI.bnd {ss : List (List Wd)} {xs : List Row} (h : SI ss xs) (ok : ∀ sc ∈ ss, okScr sc) : ∀ x ∈ xs, 0 ≤ x.p ∧ x.p ≤ 8 ∧ 0 ≤ x.l ∧ x.l ≤ 8 := fun x hx => by
  obtain ⟨sc, hsc, p, e, hp, _, _, h0, h4, _⟩ := paired_mem h hx
  have := (ok sc hsc).1
  omega
theorem StIn.sh {ss : List (List Wd)} {xs : List Row} {d : PyData} (h : StIn xs d) (si : SI ss xs) (l4 : ss.length ≤ 4) (ok : ∀ sc ∈ ss, okScr sc) : Sh 2 164 d := by
  obtain ⟨ds, s, p⟩ := h
  refine Sh.sq (n := 1) (W := 40) (L := 4) s (by rw [← paired_len p, ← paired_len si]; exact l4) fun x hx => ?_
  obtain ⟨r, hr, sx⟩ := paired_mem p hx
  obtain ⟨b1, b2, b3, b4⟩ := si.bnd ok r hr
  refine Sh.sq (n := 0) (W := 9) (L := 4) sx (by show 4 ≤ 4; decide) fun y hy => ?_
  unfold rE at hy
  simp only [List.mem_cons, List.not_mem_nil, or_false] at hy
  rcases hy with rfl | rfl | rfl | rfl
  · exact Sh.int b1 b2
  · exact Sh.bool _
  · exact Sh.bool _
  · exact Sh.int b3 b4
/-! what was handed -/
theorem Hnd.tup {ds : List PyData} {d : PyData} (h : Hnd (.tuple ds) d) : ∃ es, Sq2 d es ∧ HndAll ds es := by
  cases h with
  | leaf l => cases l
  | seq s s' q =>
    rcases s with z | z
    · cases z
    · cases z
      exact ⟨_, s', q⟩
theorem Hnd.leaf_eq {d d' : PyData} (h : Hnd d d') (l : lt2 d = false) : d' = d := by
  cases h with
  | leaf _ => rfl
  | seq s s' q =>
    rcases s with rfl | rfl <;> cases l
theorem HndAll.words : ∀ {sc : List Wd} {es : List PyData}, HndAll (scE sc) es → es = scE sc
  | [], _, .nil => rfl
  | v :: r, _, .cons h q => by
    rw [Hnd.leaf_eq h rfl, HndAll.words (sc := r) q]
    rfl
theorem HndAll.row {r : Row} {es : List PyData} (h : HndAll (rE r) es) : es = rE r := by
  cases h with
  | cons h1 q =>
    cases q with
    | cons h2 q =>
      cases q with
      | cons h3 q =>
        cases q with
        | cons h4 q =>
          cases q
          rw [Hnd.leaf_eq h1 rfl, Hnd.leaf_eq h2 rfl, Hnd.leaf_eq h3 rfl, Hnd.leaf_eq h4 rfl]
          rfl
theorem HndAll.scripts : ∀ {ss : List (List Wd)} {es : List PyData}, HndAll (ss.map fun sc => .tuple (scE sc)) es → Paired (fun sc e => Sq2 e (scE sc)) ss es
  | [], _, .nil => .nil
  | sc :: r, _, .cons h q => by
    obtain ⟨es, s, a⟩ := h.tup
    rw [a.words] at s
    exact .cons s (HndAll.scripts (ss := r) q)
theorem HndAll.rows : ∀ {xs : List Row} {es : List PyData}, HndAll (xs.map rowD) es → Paired (fun r e => Sq2 e (rE r)) xs es
  | [], _, .nil => .nil
  | x :: r, _, .cons h q => by
    obtain ⟨es, s, a⟩ := Hnd.tup (ds := rE x) h
    rw [a.row] at s
    exact .cons s (HndAll.rows (xs := r) q)
theorem Hnd.scripts {ss : List (List Wd)} {d : PyData} (h : Hnd (scD ss) d) : ScIn ss d := by
  obtain ⟨es, s, a⟩ := Hnd.tup (ds := ss.map fun sc => .tuple (scE sc)) h
  exact ⟨es, s, a.scripts⟩
theorem Hnd.state {xs : List Row} {d : PyData} (h : Hnd (stD xs) d) : StIn xs d := by
  obtain ⟨es, s, a⟩ := Hnd.tup (ds := xs.map rowD) h
  exact ⟨es, s, a.rows⟩
/-- a state as it is -/
theorem StIn.self : ∀ xs : List Row, StIn xs (stD xs) := fun xs => ⟨_, .inr rfl, by
  induction xs with
  | nil => exact .nil
  | cons x r ih => exact .cons (.inr rfl) ih⟩
theorem lev_row (r : Row) : Lev 1 (rowD r) := .tup (by show 4 ≤ 1000000; decide) fun x hx => by
  simp only [List.mem_cons, List.not_mem_nil, or_false] at hx
  rcases hx with rfl | rfl | rfl | rfl
  · exact .int _ _
  · exact .bl _ _
  · exact .bl _ _
  · exact .int _ _
theorem lev_state {xs : List Row} (h : xs.length ≤ 4) : Lev 2 (stD xs) := .tup (by rw [List.length_map]; omega) fun x hx => by
  obtain ⟨r, _, rfl⟩ := List.mem_map.mp hx
  exact lev_row r
theorem lev_scripts {ss : List (List Wd)} (h : ss.length ≤ 4) (ok : ∀ sc ∈ ss, okScr sc) : Lev 2 (scD ss) := .tup (by rw [List.length_map]; omega) fun x hx => by
  obtain ⟨sc, hsc, rfl⟩ := List.mem_map.mp hx
  have := (ok sc hsc).1
  refine .tup (by rw [List.length_map]; omega) fun y hy => ?_
  obtain ⟨v, _, rfl⟩ := List.mem_map.mp hy
  exact .str _ _
theorem lev_pair {xs : List Row} {b : Bool} (h : xs.length ≤ 4) : Lev 3 (.tuple [stD xs, .bool b]) := .tup (by show 2 ≤ 1000000; decide) fun x hx => by
  simp only [List.mem_cons, List.not_mem_nil, or_false] at hx
  rcases hx with rfl | rfl
  · exact lev_state h
  · exact .bl _ _
theorem OddN.bad {st : Addr} {H : Hp} {ss : List (List Wd)} {xs : List Row} {x : V} (h : OddN st H ss.length x) : BadN H ss xs x := by
  rcases h with ⟨i, e, hi⟩ | h | rfl | ⟨s, rfl⟩ | ⟨a, rfl, _, ⟨ys, e⟩ | ⟨ys, e⟩ | ⟨ys, e⟩⟩
  · exact .inl ⟨i, e, hi⟩
  · exact .inr (.inl h)
  · exact .inr (.inr (.inl ⟨"NoneType", fun _ _ _ => .base .non, k_NoneType_int⟩))
  · exact .inr (.inr (.inl ⟨"str", fun _ _ _ => .base (.str _), k_str_int⟩))
  · exact .inr (.inr (.inl ⟨"tuple", fun _ _ s => .base (.tup (s _ _ e)), k_tuple_int⟩))
  · exact .inr (.inr (.inl ⟨"list", fun _ _ s => .base (.lst (s _ _ e)), k_list_int⟩))
  · exact .inr (.inr (.inl ⟨"dict", fun _ _ s => .base (.dK (s _ _ e)), by decide +kernel⟩))
theorem OddN.extN {st : Addr} {H H' : Hp} {n : Nat} {x : V} (h : OddN st H n x) (b : ExtN H H') : OddN st H' n x := by
  rcases h with h | h | h | h | ⟨a, e, na, h⟩
  · exact .inl h
  · exact .inr (.inl h)
  · exact .inr (.inr (.inl h))
  · exact .inr (.inr (.inr (.inl h)))
  · refine .inr (.inr (.inr (.inr ⟨a, e, na, ?_⟩)))
    rcases h with ⟨y, h⟩ | ⟨y, h⟩ | ⟨y, h⟩
    · exact .inl ⟨y, b _ _ h (fun _ z => by cases z)⟩
    · exact .inr (.inl ⟨y, b _ _ h (fun _ z => by cases z)⟩)
    · exact .inr (.inr ⟨y, b _ _ h (fun _ z => by cases z)⟩)
/-- the numbers that do not wait -/
def endedL (w : List Nat) : Nat → List Nat
  | 0 => []
  | n + 1 => endedL w n ++ (if n ∈ w then [] else [n])
theorem endedL_len (w : List Nat) : ∀ n, (endedL w n).length ≤ n
  | 0 => Nat.le_refl _
  | n + 1 => by
    have := endedL_len w n
    unfold endedL
    rw [List.length_append]
    split <;> simp <;> omega
theorem endedL_mem {w : List Nat} : ∀ {n j : Nat}, j ∈ endedL w n → j < n ∧ j ∉ w
  | 0, j, h => nomatch h
  | n + 1, j, h => by
    unfold endedL at h
    rcases List.mem_append.mp h with h | h
    · obtain ⟨h1, h2⟩ := endedL_mem h
      exact ⟨by omega, h2⟩
    · split at h
      · cases h
      · obtain rfl := List.mem_singleton.mp h
        exact ⟨by omega, by assumption⟩
end C78

set_option Elab.async false
set_option maxRecDepth 100000
set_option maxHeartbeats 4000000
set_option linter.all false
namespace C78
open PySem L2 My M78
abbrev sLaw : Stmt := top 41
abbrev nLaw : List Str := ["_law_script_here", "_law_state", "_law_turn", "_law_some", "_law_kept", "_law_k", "_law_left_here", "_law_one_here", "_law_ended", "_law_there", "_law_spot", "_law_seen", "_law_again", "_law_handed_here", "_law_here", "_law_odd"]
theorem scLaw : FnScope nLaw ["_law_script_here"] (defScope sLaw) := ⟨rfl, rfl, rfl, by decide +kernel, rfl, by decide +kernel, by decide +kernel⟩

open LamX (ExtN Tabs TabS)
structure Tw (mg : Str → Option Value) : Prop where
  range : mg "range" = none
  repr : mg "repr" = none
theorem pe_misuse {X : Cx} {CE CD CP fI c p : Addr} {k : Nat} {params : Arguments} {body : Expr} {scope : Scope} {t : XK → TE} {pn lpos pos : Pos}
    (D : Df X.K X.mg "_law_misused" sMis ["_law_deed"]) (T3 : Cls3 X.K X.mg CE CD CP fI) (hisi : X.mg "isinstance" = none) (hg : Gl X "_law_misused") (TB : LamX.TabB X.base X.mg c p) (hcode : X.env.code = .ref c)
    (hr : Room (k + 2) X.A) (L : LamX.LamS X.env.scope scope) (hdef : defaultsOf params X.env = ([], []))
    (hbind : ∀ (q : Str) (cl : List (Str × Addr)) (pm cv ctv : Value), bindArgs (PySem.W.kla_fn "<lambda>" q params body scope cl pm cv ctv) ⟨[], []⟩ = pure [])
    (hbody : ∀ (A : Around) (outer : List Env) (s : Shared) (H : Hp) (E : XK) (f c' : Addr), Room k (A.deeper (LamX.lamEnv X scope s.heap.objs.size f c')) → PE (LamX.lamCx X A outer s H E scope f c') body (t E)) :
    PE X (.Call (.Name "_law_misused" pn) [.Lambda params body scope lpos] [] pos) (LamX.tLam [(p, X.env.qual ++ "<lambda>")] (TMis CP) t) := by
  obtain ⟨g, fd, F, hb, hm⟩ := D
  obtain ⟨oc, od, kV, doc, pm, an, cdv, ct, osl, rfl, lk, hcd⟩ := F.ex
  exact LamX.pe_lamcall (k := k) hg hm F.kp lk hcd hb scMis rfl (.inl rfl) (mis_gives T3 hisi) TB hcode (List.mem_singleton.mpr rfl) (fun q hq _ => by rw [List.mem_singleton.mp hq]) hr L hdef hbind hbody
def natD (ws : List Nat) : List PyData := ws.map fun k : Nat => .int (k : Int)
theorem at_nats {m : Addr} {H : Hp} : ∀ ws : List Nat, AtAll m H (ws.map fun k : Nat => V.int (k : Int)) (natD ws)
  | [] => .nil
  | k :: r => .cons (.int _) (at_nats r)
theorem shaped_nats (ws : List Nat) : SeqAt.shaped (.list (natD ws)) = true := by
  have h1 : PyData.canLayAll0 (natD ws) = true := by
    induction ws with
    | nil => rfl
    | cons k r ih =>
      show (PyData.canLay0 (.int (k : Int)) && PyData.canLayAll0 (natD r)) = true
      rw [ih]
      rfl
  have h2 : PyData.depthAll (natD ws) = 0 := by
    induction ws with
    | nil => rfl
    | cons k r ih =>
      have ih2 := ih (by
        have : (PyData.canLay0 (.int (k : Int)) && PyData.canLayAll0 (natD r)) = true := h1
        exact (Bool.and_eq_true_iff.mp this).2)
      show max (PyData.depth (.int (k : Int))) (PyData.depthAll (natD r)) = 0
      rw [ih2]
      rfl
  unfold SeqAt.shaped
  rw [Bool.and_eq_true_iff]
  refine ⟨?_, decide_eq_true ?_⟩
  · simpa only [PyData.canLay0] using h1
  · simp only [PyData.depth]
    rw [h2]
    decide
theorem eqv_nats (ws : List Nat) : PyData.eqv (.list (natD ws)) (.list []) = ws.isEmpty := by
  cases ws with
  | nil => rfl
  | cons k r => rfl
/-- what stands in a turn -/
structure Hv (T : List (Addr × Str)) (st c : Addr) (ns : List Int) (A Hd B : Addr) (ss : List (List Wd)) (dH : PyData) (xs : List Row) (H : Hp) : Prop where
  dr : Drw H st c ns
  tb : Tabs T H
  aA : At st H (.ref A) (scD ss)
  aH : At st H (.ref Hd) dH
  aB : At st H (.ref B) (stD xs)
section
variable {T : List (Addr × Str)} {st c : Addr} {ns : List Int} {A Hd B : Addr} {ss : List (List Wd)} {dH : PyData} {xs : List Row} {H H' : Hp}
theorem Hv.but (h : Hv T st c ns A Hd B ss dH xs H) (d : Drw H' st c ns) (b : But st H H') : Hv T st c ns A Hd B ss dH xs H' := ⟨d, Tabs.but h.tb h.dr b, h.aA.mono b, h.aH.mono b, h.aB.mono b⟩
theorem Hv.same (h : Hv T st c ns A Hd B ss dH xs H) (s : Same H H') : Hv T st c ns A Hd B ss dH xs H' := h.but (h.dr.same s) (Same.but s)
theorem Hv.extN (h : Hv T st c ns A Hd B ss dH xs H) (b : ExtN H H') (t : Tabs T H') : Hv T st c ns A Hd B ss dH xs H' := ⟨Drw.extN h.dr b, t, At.extN b h.aA, At.extN b h.aH, At.extN b h.aB⟩
/-- what holds of the scripts -/
structure Pu (ss : List (List Wd)) (dH : PyData) : Prop where
  sc : ScIn ss dH
  l1 : 1 ≤ ss.length
  l4 : ss.length ≤ 4
  ok : ∀ sc ∈ ss, okScr sc
theorem mis_read {CP : Addr} {σ : L2.St} {i : Nat} {x : V} {Q : VK} (h : Hv T st c ns A Hd B ss dH xs H) (pu : Pu ss dH) (si : SI ss xs) (h13 : σ[13]? = some (some (.ref Hd))) (h14 : σ[14]? = some (some (.ref B))) (hi : σ[i]? = some (some x))
    (hb : ∀ H1, ExtN H H1 → BadN H1 ss xs x) (k : ∀ H', ExtN H H' → Tabs T H' → Q (.bl true) H') :
    LamX.tLam T (TMis CP) (fun E => tCallS (spNext CP) (WE fun cls d _ H => E cls d H) (tCons (tVar 13) (tCons (tVar 14) (tCons (tVar i) tNil)))) σ H Q := by
  refine ⟨h.tb, fun H1 e1 t1 Q' => ?_⟩
  have h1 := h.extN e1 t1
  obtain ⟨o, hst⟩ := h1.dr.at
  refine ⟨_, h13, _, h14, _, hi, st, Hd, B, o, ss, xs, dH, stD xs, x, hst, rfl, h1.aH, pu.sc, pu.l1, pu.l4, pu.ok, h1.aB, StIn.self xs, paired_len si, .inr ⟨hb H1 e1, fun d H' s' e => ?_⟩⟩
  exact ⟨d, rfl, rfl, e, k H' (e1.trans (ExtN.of s')) (t1.ext s')⟩
end
abbrev lamT (p : Addr) : List (Addr × Str) := [(p, (PyProof.Rows.envOfC "law" (defScope sLaw) 0 0 Value.none).qual ++ "<lambda>")]
section
variable {P : Program} {w : World} {K : PySem.W.Frag} {mg : Str → Option Value} {base : Heap}

variable {CE CD CP fI : Addr}
def spLaw (K : PySem.W.Frag) (p : Addr) : Sp := fun vs H Q _ => ∃ (a : Addr) (ns : List Int), vs = [.ref a] ∧ SqL K H a (ns.map V.int) ∧ ns.length ≤ 63 ∧ H p = some (.tbl #[]) ∧ ∀ H', Q (.bl true) H'
theorem ok_law {f c p : Addr} {fd : FuncData} (F : Fun K "law" "law" sLaw f fd) (hcv : fd.code = .ref c) (TB : LamX.TabB base mg c p) (T : Ty mg) (T1 : Tw mg) (T3 : Cls3 K mg CE CD CP fI) (DM : Df K mg "_law_misused" sMis ["_law_deed"])
    (PF : Pr P w K mg base 1 "_law_fresh" ["_law_script_here"] (spFresh K)) (PT : Pr P w K mg base 2 "_law_take" ["_law_state", "_law_many"] spTake) (PSc : Pr P w K mg base 5 "_law_scripts" ["_law_state", "_law_most", "_law_many"] spScripts)
    (PH : Pr P w K mg base 5 "_law_handed" ["_law_state", "_law_thing"] (spHanded 2)) (PB : Pr P w K mg base 1 "_law_begun" ["_law_scripts_here"] spBegun) (PS2 : Pr P w K mg base 3 "_law_same" ["_law_found", "_law_due"] (spSame 2)) (PS3 : Pr P w K mg base 4 "_law_same" ["_law_found", "_law_due"] (spSame 3))
    (PFi : Pr P w K mg base 4 "first_state" ["scripts"] spFirst) (PO : Pr P w K mg base 4 "_law_odd_number" ["_law_state", "_law_many"] spOdd) (PL : Pr P w K mg base 4 "_law_left" ["_law_scripts_here", "_law_here"] spLeft)
    (PAf : Pr P w K mg base 2 "_law_after" ["_law_scripts_here", "_law_here", "_law_at"] spAfter) (PN : PrX P w K mg base 5 "next_state" ["scripts", "state", "at"] (spNext CP)) : FnG P w K mg base 8 f fd ["_law_script_here"] (spLaw K p) := by
  refine Fun.okH F scLaw hcv (fun vs H Q E h => ?_) (fun Ar outer s H vs Q E hgd hr h => ?_)
  · obtain ⟨a, ns, rfl, _⟩ := h
    rfl
  · obtain ⟨a, ns, rfl, hS, hlen, htab, k⟩ := h
    have nd := scLaw.nd
    have hr1 := hr.mono (show 1 ≤ 7 by decide)
    have hr2 := hr.mono (show 2 ≤ 7 by decide)
    have hr3 := hr.mono (show 3 ≤ 7 by decide)
    have hr4 := hr.mono (show 4 ≤ 7 by decide)
    have hr5 := hr.mono (show 5 ≤ 7 by decide)
    refine ⟨_, (pss_cons (ps_asg (pe_callP PF hr1 (by rfl) (pa_cons (pv 0) pa_nil)) (pg_name (i := 1) nd rfl (Or.inl rfl)))
      (pss_cons (ps_for PassesOwn.never rfl (pi_range1 rfl T1.range (pa_cons pe_int pa_nil)) (pg_name (i := 2) nd rfl (Or.inl rfl))
        (pss_cons (ps_asg (pe_callP PSc hr5 (by rfl) (pa_cons (pv 1) (pa_cons pe_int (pa_cons pe_int pa_nil)))) (pg_name (i := 3) nd rfl (Or.inl rfl)))
        (pss_cons (ps_asg (pe_callP PH hr5 (by rfl) (pa_cons (pv 1) (pa_cons (pv 3) pa_nil))) (pg_name (i := 13) nd rfl (Or.inr rfl)))
        (pss_cons (ps_asg (pe_tup (pa_cons (pe_callB (call_repr hgd hr.units) (by rfl) T1.repr (by decide +kernel) (pa_cons (pv 13) pa_nil)) (pa_cons (pe_callP PB hr1 (by rfl) (pa_cons (pv 3) pa_nil)) pa_nil))) (pg_tup rfl (pgs_cons (pg_name (i := 4) nd rfl (Or.inl rfl)) (pgs_cons (pg_name (i := 14) nd rfl (Or.inr rfl)) pgs_nil))))
        (pss_cons (ps_if (pt_not (pt_val (pe_callP PS2 hr3 (by rfl) (pa_cons (pe_callP PFi hr4 (by rfl) (pa_cons (pv 13) pa_nil)) (pa_cons (pv 14) pa_nil)))))
          (pss_one (ps_ret pe_bl))
          pss_nil)
        (pss_cons (ps_asg (pe_callP PO hr4 (by rfl) (pa_cons (pv 1) (pa_cons (pe_callB call_len (by rfl) T.len PySem.boot_len (pa_cons (pv 3) pa_nil)) pa_nil))) (pg_name (i := 15) nd rfl (Or.inr rfl)))
        (pss_cons (ps_if (pt_not (pt_val (pe_misuse DM T3 T.isinstance (by rfl) TB rfl (k := 5) hr (LamX.lamS_by (sc := defScope sLaw) (by decide +kernel)) rfl (fun _ _ _ _ _ => rfl) (fun A outer s H E f c' hr' => pe_callPX PN hr' (by rfl) (takes_of rfl rfl rfl rfl) (pa_cons (pv 13) (pa_cons (pv 14) (pa_cons (pv 15) pa_nil)))))))
          (pss_one (ps_ret pe_bl))
          pss_nil)
        (pss_cons (ps_for PassesOwn.never rfl (pi_range1 rfl T1.range (pa_cons (pe_callP PT hr2 (by rfl) (pa_cons (pv 1) (pa_cons pe_int pa_nil))) pa_nil)) (pg_name (i := 5) nd rfl (Or.inl rfl))
          (pss_cons (ps_asg (pe_callP PL hr4 (by rfl) (pa_cons (pv 3) (pa_cons (pv 14) pa_nil))) (pg_name (i := 6) nd rfl (Or.inr rfl)))
          (pss_cons (ps_setLc (i := 8) (own := [("_law_one_here", 7)]) (g := gName 7) (tt := tTest (tOp (rIn K true) (tVar 7) (tVar 6))) (by rfl) nd rfl rfl (sw_true rfl rfl rfl (by decide +kernel)) (pi_range1 rfl T1.range (pa_cons (pe_callB call_len (by rfl) T.len PySem.boot_len (pa_cons (pv 3) pa_nil)) pa_nil))
  (blkOk_by (own := [("_law_one_here", 7)]) (N := nLaw) (sc := defScope sLaw) (by decide +kernel))
  (fun _ _ _ _ _ => pg_name (i := 7) nd rfl (Or.inl rfl) (Or.inr rfl)) (fun _ _ _ _ _ => pts_one (pt_cmpR op_notIn_seq (pv 7) (pv 6) (by rfl)))
  (fun _ _ _ _ _ => (pv 7)))
          (pss_cons (ps_asg (pe_callP PO hr4 (by rfl) (pa_cons (pv 1) (pa_cons (pe_callB call_len (by rfl) T.len PySem.boot_len (pa_cons (pv 3) pa_nil)) pa_nil))) (pg_name (i := 15) nd rfl (Or.inr rfl)))
          (pss_cons (ps_for PassesOwn.never rfl (pi_list (pe_op op_cat (pe_slice sl_list (pv 8) po_none (po_some pe_int)) (pe_op op_rep (pe_lst (pa_cons (pv 15) pa_nil)) (pe_callTy call_int1 (by rfl) T.int (by decide +kernel) (pa_cons (pe_cmpR op_eq (pe_callP PT hr2 (by rfl) (pa_cons (pv 1) (pa_cons pe_int pa_nil))) pe_int (nomark _)) pa_nil))))) (pg_name (i := 7) nd rfl (Or.inr rfl))
            (pss_one (ps_if (pt_not (pt_val (pe_misuse DM T3 T.isinstance (by rfl) TB rfl (k := 5) hr (LamX.lamS_by (sc := defScope sLaw) (by decide +kernel)) rfl (fun _ _ _ _ _ => rfl) (fun A outer s H E f c' hr' => pe_callPX PN hr' (by rfl) (takes_of rfl rfl rfl rfl) (pa_cons (pv 13) (pa_cons (pv 14) (pa_cons (pv 7) pa_nil)))))))
              (pss_one (ps_ret pe_bl))
              pss_nil)))
          (pss_one (ps_if (pt_cmpR (op_neD hr.units) (pv 6) (pe_lst pa_nil) (nomark _))
            (pss_cons (ps_asg (pe_ix ix_list (pv 6) (pe_callP PT hr2 (by rfl) (pa_cons (pv 1) (pa_cons (pe_callB call_len (by rfl) T.len PySem.boot_len (pa_cons (pv 6) pa_nil)) pa_nil))) (fun _ _ => rfl)) (pg_name (i := 7) nd rfl (Or.inr rfl)))
            (pss_cons (ps_asg (pe_callP PAf hr2 (by rfl) (pa_cons (pv 3) (pa_cons (pv 14) (pa_cons (pv 7) pa_nil)))) (pg_name (i := 9) nd rfl (Or.inl rfl)))
            (pss_cons (ps_asg (pe_callP PH hr5 (by rfl) (pa_cons (pv 1) (pa_cons (pv 14) pa_nil))) (pg_name (i := 10) nd rfl (Or.inl rfl)))
            (pss_cons (ps_asg (pe_callB (call_repr hgd hr.units) (by rfl) T1.repr (by decide +kernel) (pa_cons (pv 10) pa_nil)) (pg_name (i := 11) nd rfl (Or.inl rfl)))
            (pss_cons (ps_for PassesOwn.never rfl (pi_range1 rfl T1.range (pa_cons pe_int pa_nil)) (pg_name (i := 12) nd rfl (Or.inl rfl))
              (pss_one (ps_if (pt_not (pt_val (pe_callP PS3 hr4 (by rfl) (pa_cons (pe_callP PN.calm hr5 (by rfl) (pa_cons (pv 13) (pa_cons (pv 10) (pa_cons (pv 7) pa_nil)))) (pa_cons (pv 9) pa_nil)))))
                (pss_one (ps_ret pe_bl))
                pss_nil)))
            (pss_cons (ps_if (pt_cmpR op_ne (pe_callB (call_repr hgd hr.units) (by rfl) T1.repr (by decide +kernel) (pa_cons (pv 10) pa_nil)) (pv 11) (nomark _))
              (pss_one (ps_ret pe_bl))
              pss_nil)
            (pss_one (ps_asg (pe_ix ix_tup (pv 9) pe_int (fun _ _ => rfl)) (pg_name (i := 14) nd rfl (Or.inr rfl))))))))))
            pss_nil)))))))
        (pss_one (ps_if (pt_cmpR op_ne (pe_callB (call_repr hgd hr.units) (by rfl) T1.repr (by decide +kernel) (pa_cons (pv 13) pa_nil)) (pv 4) (nomark _))
          (pss_one (ps_ret pe_bl))
          pss_nil))))))))))
      (pss_one (ps_ret pe_bl)))), ?_⟩
    refine ⟨_, rfl, a, ns, rfl, hS, hlen, fun st c' H1 nst nc dr sm => ?_⟩
    have tb1 : Tabs (lamT p) H1 := fun q hq => by
      rw [List.mem_singleton.mp hq]
      exact TabS.nil (sm _ _ htab)
    refine ⟨_, rfl, by decide, by decide, ?_⟩
    refine for_range (fun i σ H2 => (∃ o2 o3 o4 o5 o6 o7 o8 o9 o10 o11 o12 o13 o14 o15, σ = [some (.ref a), some (.ref st), o2, o3, o4, o5, o6, o7, o8, o9, o10, o11, o12, o13, o14, o15]) ∧ Drw H2 st c' ns ∧ Tabs (lamT p) H2) ⟨⟨_, _, _, _, _, _, _, _, _, _, _, _, _, _, rfl⟩, dr, tb1⟩ ?_ ?_
    · rintro i σ H2 hi ⟨⟨o2, o3, o4, o5, o6, o7, o8, o9, o10, o11, o12, o13, o14, o15, rfl⟩, d2, tb2⟩
      -- some, handed
      refine ⟨_, rfl, st, c', ns, 4, 8, rfl, d2, hlen, by decide, by decide, by decide, fun ss A H3 l1 l4 ok aA3 d3 b3 => ?_⟩
      have tb3 := Tabs.but tb2 d2 b3
      refine ⟨_, rfl, _, rfl, st, c', ns, .ref A, scD ss, rfl, d3, hlen, aA3, lev_scripts l4 ok, fun y dH H4 hn hz d4 b4 => ?_⟩
      have tb4 := Tabs.but tb3 d3 b4
      obtain ⟨o3', hst3⟩ := d3.at
      have aH4 := hz _ _ hst3
      have pu : Pu ss dH := ⟨hn.scripts, l1, l4, ok⟩
      obtain ⟨dsH, sqH, _⟩ := pu.sc
      obtain ⟨Hd, uH, rfl, nHd, _, _⟩ := sqH.at aH4
      have aA4 := aA3.mono b4
      obtain ⟨o4', hst4⟩ := d4.at
      -- kept, here
      refine ⟨_, rfl, ?_⟩
      dsimp only [tNil]
      refine (pu.sc.sh l4 ok).repr (by decide) (by decide) aH4 ?_
      refine ⟨_, rfl, st, A, o4', ss, hst4, rfl, aA4, (by omega), fun B H5 nB s5 aB5 => ?_⟩
      refine ⟨(by show 2 ≤ sizeLine; decide), fun tp ntp => ?_⟩
      generalize htp : upd H5 tp _ = H6
      have stp : Same H5 H6 := htp ▸ Same.new ntp
      have etp : H6 tp = some (.tup [.str dH.shown, .ref B]) := htp ▸ upd_same
      clear htp
      refine ⟨_, _, rfl, SqT.of etp, rfl, _, _, rfl, _, _, rfl, rfl, ?_⟩
      have s46 := Same.tr s5 stp
      have hv6 : Hv (lamT p) st c' ns A Hd B ss dH (List.replicate ss.length row0) H6 := ⟨d4.same s46, tb4.ext s46, aA4.mono (Same.but s46), aH4.mono (Same.but s46), aB5.mono (Same.but stp)⟩
      clear aA4 aH4 aA3 tb4 tb3 tb2 s46 stp etp hz
      obtain ⟨o6', hst6⟩ := hv6.dr.at
      -- first_state
      refine ⟨_, rfl, st, Hd, o6', ss, dH, hst6, rfl, hv6.aH, pu.sc, l1, l4, ok, fun q7 H7 s7 aq7 => ?_⟩
      have hv7 := hv6.same s7
      refine ⟨_, rfl, st, .ref q7, .ref B, stD (List.replicate ss.length row0), o6', rfl, s7 _ _ hst6, aq7, hv7.aB, lev_state (by rw [List.length_replicate]; exact l4), fun H8 s8 => ?_⟩
      have hv8 := hv7.same s8
      refine ⟨_, rfl, iteF ?_⟩
      -- odd
      obtain ⟨_, uA, eA, nA, hA8, aA8⟩ := at_tup hv8.aA
      cases eA
      have lA : uA.length = ss.length := by
        rw [aA8.length, List.length_map]
      refine ⟨_, rfl, _, rfl, _, _, rfl, (Or.inr ⟨_, SqT.of hA8, rfl⟩), ?_⟩
      refine ⟨st, c', ns, ss.length, (by rw [lA]; rfl), hv8.dr, hlen, l1, l4, fun x H9 ox d9 b9 => ?_⟩
      have hv9 := hv8.but d9 b9
      have si0 : SI ss (List.replicate ss.length row0) := SI.zero ss
      refine mis_read (i := 15) hv9 pu si0 rfl rfl rfl (fun H1 e => (OddN.extN ox e).bad) (fun H10 e10 t10 => ?_)
      refine ⟨_, rfl, iteF ?_⟩
      have hv10 := hv9.extN e10 t10
      -- the tries
      refine ⟨_, rfl, st, c', ns, 41, rfl, hv10.dr, hlen, by decide, by decide, fun many H11 m0 m1 d11 b11 => ?_⟩
      have hv11 := hv10.but d11 b11
      obtain ⟨mn, rfl⟩ := Int.eq_ofNat_of_zero_le m0
      refine ⟨_, rfl, (by omega), (by omega), ?_⟩
      rw [show ((mn : Nat) : Int).toNat = mn by omega]
      clear hv10 hv9 hv8 hv7 hv6 aA8 hA8 uA lA nA
      refine for_range (lo := 0) (n := mn) (fun j σ H2 => ∃ (B : Addr) (xs : List Row) (o2 o5 o6 o7 o8 o9 o10 o11 o12 o15 : Option V), σ = [some (.ref a), some (.ref st), o2, some (.ref A), some (.str dH.shown), o5, o6, o7, o8, o9, o10, o11, o12, some (.ref Hd), some (.ref B), o15] ∧ Hv (lamT p) st c' ns A Hd B ss dH xs H2 ∧ SI ss xs)
        ⟨B, _, _, _, _, _, _, _, _, _, _, _, rfl, hv11, si0⟩ ?_ ?_
      · rintro j σ H1 hj ⟨B, xs, o2, o5, o6, o7, o8, o9, o10, o11, o12, o15, rfl, hv, si⟩
        have hle := paired_len si
        have lx : xs.length ≤ 4 := by omega
        obtain ⟨_, uA, eA, nA, hA1, aA1⟩ := at_tup hv.aA
        cases eA
        have lA : uA.length = ss.length := by
          rw [aA1.length, List.length_map]
        -- left
        refine ⟨_, rfl, _, rfl, st, A, B, ss, xs, rfl, hv.aA, hv.aB, hle, (by omega), fun Lf H2 nLf s2 hLf => ?_⟩
        obtain ⟨ws, hws⟩ : ∃ ws, ws = waitL ss xs xs.length := ⟨_, rfl⟩
        rw [← hws] at hLf
        have lw : ws.length ≤ 4 := by
          have := waitL_len ss xs xs.length
          rw [hws]
          omega
        have nLs : Lf ≠ st := hv.dr.nst nLf
        have hv2 := hv.same s2
        -- ended
        refine ⟨_, rfl, _, _, rfl, (Or.inr ⟨_, SqT.of (s2 _ _ hA1), rfl⟩), _, rfl, (by omega), (by omega), fun Dl hD => ?_⟩
        rw [show ((uA.length : Nat) : Int).toNat = ss.length by omega]
        have nDs : Dl ≠ st := hv2.dr.nst hD
        refine lc_range (lo := 0) (n := ss.length) (fun i H3 => Same H2 H3 ∧ H3 Dl = some (.lst ((endedL ws i).map fun k : Nat => V.int (k : Int)))) ?_ ?_ ?_
        · exact ⟨same_new hD, upd_same⟩
        · rintro i H3 hi ⟨s3, hl3⟩
          rw [show (0 : Int) + (i : Nat) = ((i : Nat) : Int) by omega]
          refine ⟨rfl, ?_⟩
          refine ⟨_, rfl, _, rfl, _, _, rfl, .inl (SqL.of (s3 _ _ hLf)), rfl, flat_nats _, ?_⟩
          rw [inV_nat]
          refine ⟨_, rfl, ?_⟩
          have he : endedL ws (i + 1) = endedL ws i ++ (if i ∈ ws then [] else [i]) := rfl
          by_cases hiw : i ∈ ws
          · rw [decide_eq_true hiw]
            refine iteF ⟨s3, ?_⟩
            rw [hl3, he, if_pos hiw, List.append_nil]
          · rw [decide_eq_false hiw]
            refine iteT ⟨_, rfl, _, hl3, ?_, ?_, ?_⟩
            · rw [List.length_map]
              have := endedL_len ws i
              exact small6 (by omega)
            · intro b u e
              rw [upd_ne (ne_of_none e hD)]
              exact s3 _ _ e
            · rw [upd_same, he, if_neg hiw, List.map_append]
              rfl
        · rintro H3 ⟨s3, hl3⟩
          have hv3 := hv2.same s3
          have hLf3 := s3 _ _ hLf
          -- odd
          refine ⟨_, rfl, _, rfl, _, _, rfl, (Or.inr ⟨_, SqT.of (s3 _ _ (s2 _ _ hA1)), rfl⟩), ?_⟩
          refine ⟨st, c', ns, ss.length, (by rw [lA]; rfl), hv3.dr, hlen, pu.l1, pu.l4, fun x H4 ox d4 b4 => ?_⟩
          have hv4 := hv3.but d4 b4
          have hLf4 := b4 _ _ hLf3 nLs
          have hD4 := b4 _ _ hl3 nDs
          -- the list of what is misused
          refine ⟨_, rfl, _, rfl, _, _, rfl, SqL.of hD4, fun p1 np1 => ?_⟩
          generalize hp1 : upd H4 p1 _ = H5
          have s5 : Same H4 H5 := hp1 ▸ Same.new np1
          have e5 : H5 p1 = some (.lst (cutV ((endedL ws ss.length).map fun k : Nat => V.int (k : Int)) none (some 1))) := hp1 ▸ upd_same
          clear hp1
          refine ⟨_, rfl, (by show 1 ≤ sizeLine; decide), fun p2 np2 => ?_⟩
          generalize hp2 : upd H5 p2 _ = H6
          have sp2 : Same H5 H6 := hp2 ▸ Same.new np2
          have ep2 : H6 p2 = some (.lst [x]) := hp2 ▸ upd_same
          clear hp2
          have hv6 := (hv4.same s5).same sp2
          refine ⟨_, rfl, st, c', ns, 4, rfl, hv6.dr, hlen, by decide, by decide, fun d7 H7 z0 z1 d7' b7 => ?_⟩
          have hv7 := hv6.but d7' b7
          have n1 : p1 ≠ st := hv4.dr.nst np1
          have n2 : p2 ≠ st := (hv4.same s5).dr.nst np2
          have e17 := b7 _ _ (sp2 _ _ e5) n1
          have e27 := b7 _ _ ep2 n2
          have hLf7 := b7 _ _ (sp2 _ _ (s5 _ _ hLf4)) nLs
          have ox7 := OddN.but (OddN.but (OddN.but ox (Same.but s5)) (Same.but sp2)) b7
          refine ⟨rfl, .inr ⟨_, rfl, ?_⟩⟩
          have kk : (if decide (V.int d7 = V.int 0) = true then (1 : Int) else 0) = 0 ∨ (if decide (V.int d7 = V.int 0) = true then (1 : Int) else 0) = 1 := by
            split
            · exact .inr rfl
            · exact .inl rfl
          generalize hkv : (if decide (V.int d7 = V.int 0) = true then (1 : Int) else 0) = kv at kk ⊢
          clear hkv
          have lz : (List.replicate kv.toNat [x]).flatten.length ≤ 1 := by
            rcases kk with rfl | rfl
            · exact Nat.zero_le _
            · exact Nat.le_refl _
          have hz9 : ∀ y ∈ (List.replicate kv.toNat [x]).flatten, y = x := fun y hy => by
            rcases kk with rfl | rfl
            · cases hy
            · exact List.mem_singleton.mp hy
          have lc : (cutV ((endedL ws ss.length).map fun k : Nat => V.int (k : Int)) none (some 1)).length ≤ 4 := by
            have h1 := endedL_len ws ss.length
            have h2 : ∀ (l : List V) , (cutV l none (some 1)).length ≤ l.length := fun l => by
              show ((l.drop _).take _).length ≤ _
              rw [List.length_take, List.length_drop]
              omega
            have h3 := h2 ((endedL ws ss.length).map fun k : Nat => V.int (k : Int))
            rw [List.length_map] at h3
            omega
          have hc9 : ∀ y ∈ cutV ((endedL ws ss.length).map fun k : Nat => V.int (k : Int)) none (some 1), ∃ j : Nat, y = .int (j : Int) ∧ j < ss.length ∧ j ∉ ws := fun y hy => by
            have hy2 : y ∈ (endedL ws ss.length).map fun k : Nat => V.int (k : Int) := List.mem_of_mem_drop (List.mem_of_mem_take hy)
            obtain ⟨j, hj2, rfl⟩ := List.mem_map.mp hy2
            exact ⟨j, rfl, endedL_mem hj2⟩
          refine ⟨_, _, _, rfl, rfl, e27, (by omega), (by omega), (by show 1 * kv.toNat ≤ sizeLine; exact Nat.le_of_lt (small6 (by omega))), fun p3 np3 => ?_⟩
          generalize hp3 : upd H7 p3 _ = H8
          have s8 : Same H7 H8 := hp3 ▸ Same.new np3
          have e8 : H8 p3 = some (.lst (List.replicate kv.toNat [x]).flatten) := hp3 ▸ upd_same
          clear hp3
          refine ⟨_, _, _, _, rfl, rfl, s8 _ _ e17, e8, Nat.le_of_lt (small6 (by omega)), fun p4 np4 => ?_⟩
          generalize hp4 : upd H8 p4 _ = H9
          have s9 : Same H8 H9 := hp4 ▸ Same.new np4
          obtain ⟨its, hits⟩ : ∃ its, its = cutV ((endedL ws ss.length).map fun k : Nat => V.int (k : Int)) none (some 1) ++ (List.replicate kv.toNat [x]).flatten := ⟨_, rfl⟩
          have e9 : H9 p4 = some (.lst its) := hits ▸ hp4 ▸ upd_same
          have hi9 : ∀ y ∈ its, y = x ∨ ∃ j : Nat, y = .int (j : Int) ∧ j < ss.length ∧ j ∉ ws := fun y hy => by
            rw [hits] at hy
            rcases List.mem_append.mp hy with hy | hy
            · exact .inr (hc9 y hy)
            · exact .inl (hz9 y hy)
          clear hp4 hits
          have s79 := Same.tr s8 s9
          have hv9 := hv7.same s79
          have ox9 := OddN.but ox7 (Same.but s79)
          have hLf9 := s79 _ _ hLf7
          refine ⟨p4, rfl, ⟨_, SqL.of e9⟩, ?_⟩
          clear hc9 hz9 lc lz e8 e17 e27 ox7 hv7 hLf7 hv6 e5 ep2 hv4 hLf4 hD4
          refine for_list (K := K) (xs := its) (fun i σ H2 => ∃ (o7 : Option V), σ = [some (.ref a), some (.ref st), o2, some (.ref A), some (.str dH.shown), some (.int (0 + (j : Int))), some (.ref Lf), o7, some (.ref Dl), o9, o10, o11, o12, some (.ref Hd), some (.ref B), some x] ∧ Hv (lamT p) st c' ns A Hd B ss dH xs H2 ∧ H2 p4 = some (.lst its) ∧ H2 Lf = some (.lst (ws.map fun k : Nat => V.int (k : Int))) ∧ OddN st H2 ss.length x)
            ⟨_, rfl, hv9, e9, hLf9, ox9⟩ ?_ ?_ ?_
          · rintro i σ H2 _ ⟨o7, _, _, e, _⟩
            exact SqL.of e
          · rintro i y σ H2 hy ⟨o7, rfl, hv, e, hl, ox⟩
            refine mis_read (i := 7) hv pu si rfl rfl rfl (fun H1 e1 => ?_) (fun H3 e3 t3 => ?_)
            · rcases hi9 y (List.mem_of_getElem? hy) with rfl | ⟨j, rfl, h1, h2⟩
              · exact (OddN.extN ox e1).bad
              · exact .inr (.inr (.inr ⟨j, rfl, h1, hws ▸ h2⟩))
            · refine ⟨_, rfl, iteF ?_⟩
              exact ⟨_, rfl, hv.extN e3 t3, e3 _ _ e (fun _ z => by cases z), e3 _ _ hl (fun _ z => by cases z), OddN.extN ox e3⟩
          · rintro σ H2 ⟨o7, rfl, hv, _, hl, _⟩
            refine ⟨_, rfl, (by show 0 ≤ sizeLine; decide), fun p9 np9 => ?_⟩
            generalize hp9 : upd H2 p9 _ = H3
            have s3 : Same H2 H3 := hp9 ▸ Same.new np9
            have e3 : H3 p9 = some (.lst []) := hp9 ▸ upd_same
            clear hp9
            have hv3 := hv.same s3
            have hl3 := s3 _ _ hl
            refine ⟨_, _, Dp.lst (SqL.of hl3) (at_nats (m := st) ws).dp, Dp.lst (SqL.of e3) .nil, shaped_nats ws, rfl, ?_⟩
            rw [eqv_nats]
            refine ⟨_, rfl, ?_⟩
            cases hwe : ws.isEmpty
            · refine iteT ?_
              have lw0 : 0 < ws.length := by
                cases ws with
                | nil => cases hwe
                | cons _ _ => exact Nat.succ_pos _
              -- one of them
              refine ⟨_, rfl, _, rfl, _, rfl, _, _, rfl, (Or.inl ⟨_, SqL.of hl3, rfl⟩), ?_⟩
              refine ⟨st, c', ns, _, rfl, hv3.dr, hlen, (by rw [List.length_map]; omega), (by rw [List.length_map]; omega), fun d4 H4 z0 z1 d4' b4 => ?_⟩
              have hv4 := hv3.but d4' b4
              have hl4 := b4 _ _ hl3 nLs
              obtain ⟨dn, rfl⟩ := Int.eq_ofNat_of_zero_le z0
              rw [List.length_map] at z1
              have hdn : dn < ws.length := by omega
              have hjw : ws[dn] ∈ ws := List.getElem_mem hdn
              refine ⟨_, _, _, .int ((ws[dn] : Nat) : Int), rfl, rfl, SqL.of hl4, atI_nat (by rw [List.getElem?_map, List.getElem?_eq_getElem hdn]; rfl), ?_⟩
              generalize ws[dn] = jj at hjw ⊢
              rw [hws] at hjw
              obtain ⟨sc, r, hjx, hsc, hr', hrp⟩ := waitL_mem hjw
              have ri := si.get hsc hr'
              obtain ⟨pp, hpp, hple, hro, hrr, hr0, hr4', hrl⟩ := id ri
              have hpl : pp < sc.length := by omega
              obtain ⟨v, hv'⟩ : ∃ v, sc[pp]? = some v := ⟨_, List.getElem?_eq_getElem hpl⟩
              have okc := pu.ok sc (List.mem_of_getElem? hsc)
              obtain ⟨haf, ri'⟩ := ri.step (t := topM xs jj) okc hpp hv'
              obtain ⟨o4', hst4⟩ := hv4.dr.at
              -- there
              refine ⟨_, rfl, _, rfl, _, rfl, st, A, B, o4', ss, xs, jj, pp, sc, r, v, hst4, rfl, hv4.aA, hv4.aB, (by omega), hsc, hr', hpp, hv', si.nonneg, fun Th H5 s5 aTh => ?_⟩
              rw [haf] at aTh
              have hv5 := hv4.same s5
              -- spot
              refine ⟨_, rfl, _, rfl, st, c', ns, .ref B, stD xs, rfl, hv5.dr, hlen, hv5.aB, lev_state lx, fun y dS H6 hn6 hz6 d6 b6 => ?_⟩
              have hv6 := hv5.but d6 b6
              have aTh6 := aTh.mono b6
              obtain ⟨o5', hst5⟩ := hv5.dr.at
              have aS6 := hz6 _ _ hst5
              have sI := hn6.state
              obtain ⟨dsS, sqS, _⟩ := id sI
              obtain ⟨Sp, uS, rfl, nSp, _, _⟩ := sqS.at aS6
              -- seen
              refine ⟨_, rfl, ?_⟩
              dsimp only [tNil]
              refine (sI.sh si pu.l4 pu.ok).repr (by decide) (by decide) aS6 ?_
              -- twice
              refine ⟨_, rfl, by decide, by decide, ?_⟩
              refine for_range (fun i σ H2 => ∃ (o12 : Option V), σ = [some (.ref a), some (.ref st), o2, some (.ref A), some (.str dH.shown), some (.int (0 + (j : Int))), some (.ref Lf), some (.int (jj : Int)), some (.ref Dl), some (.ref Th), some (.ref Sp), some (.str dS.shown), o12, some (.ref Hd), some (.ref B), some x] ∧ Hv (lamT p) st c' ns A Hd B ss dH xs H2 ∧ At st H2 (.ref Sp) dS ∧
                  At st H2 (.ref Th) (.tuple [stD (xs.set jj (triedM v r (topM xs jj)).1), .bool (triedM v r (topM xs jj)).2])) ⟨_, rfl, hv6, aS6, aTh6⟩ ?_ ?_
              · rintro i σ H7 hi ⟨o12, rfl, hv7, aS7, aTh7⟩
                obtain ⟨o7', hst7⟩ := hv7.dr.at
                refine ⟨_, rfl, _, rfl, _, rfl, st, Hd, Sp, o7', ss, xs, dH, dS, _, hst7, rfl, hv7.aH, pu.sc, pu.l1, pu.l4, pu.ok, aS7, sI, hle, .inl ⟨jj, pp, sc, r, v, rfl, hsc, hr', hpp, hv', fun q H8 s8 aq => ?_⟩⟩
                refine ⟨_, rfl, st, .ref q, .ref Th, _, o7', rfl, s8 _ _ hst7, aq, aTh7.mono (Same.but s8), lev_pair (by rw [List.length_set]; exact lx), fun H9 s9 => ?_⟩
                refine ⟨_, rfl, iteF ?_⟩
                have s79 := Same.tr s8 s9
                exact ⟨_, rfl, hv7.same s79, aS7.mono (Same.but s79), aTh7.mono (Same.but s79)⟩
              · rintro σ H7 ⟨o12, rfl, hv7, aS7, aTh7⟩
                refine ⟨_, rfl, ?_⟩
                dsimp only [tNil]
                refine (sI.sh si pu.l4 pu.ok).repr (by decide) (by decide) aS7 ?_
                refine ⟨_, rfl, rfl, _, rfl, ?_⟩
                rw [decide_eq_true (show V.str dS.shown = V.str dS.shown from rfl)]
                refine iteF ?_
                obtain ⟨_, uT, eT, nT, hT7, aT7⟩ := at_tup aTh7
                cases eT
                cases aT7 with
                | cons a1 ar =>
                  obtain ⟨B', uB', rfl, nB', hB', aB'⟩ := at_tup a1
                  cases ar with
                  | cons a2 ar2 =>
                    cases ar2
                    refine ⟨_, rfl, _, _, _, _, rfl, rfl, SqT.of hT7, rfl, ?_⟩
                    exact ⟨B', _, _, _, _, _, _, _, _, _, _, _, rfl, ⟨hv7.dr, hv7.tb, hv7.aA, hv7.aH, a1⟩, si.set hsc ri'⟩
            · refine iteF ?_
              exact ⟨B, xs, _, _, _, _, _, _, _, _, _, _, rfl, hv3, si⟩
      · rintro σ H1 ⟨B, xs, o2, o5, o6, o7, o8, o9, o10, o11, o12, o15, rfl, hv, si⟩
        refine ⟨_, rfl, ?_⟩
        dsimp only [tNil]
        refine (pu.sc.sh l4 ok).repr (by decide) (by decide) hv.aH ?_
        refine ⟨_, rfl, rfl, _, rfl, ?_⟩
        rw [decide_eq_true (show V.str dH.shown = V.str dH.shown from rfl)]
        refine iteF ?_
        exact ⟨⟨_, _, _, _, _, _, _, _, _, _, _, _, _, _, rfl⟩, hv.dr, hv.tb⟩
    · rintro σ H2 ⟨⟨o2, o3, o4, o5, o6, o7, o8, o9, o10, o11, o12, o13, o14, o15, rfl⟩, d2, tb2⟩
      exact k _
end
end C78

set_option Elab.async false
set_option maxRecDepth 100000
set_option maxHeartbeats 4000000
set_option linter.all false
namespace C78
open PySem L2 My M78
theorem df_mk {K : PySem.W.Frag} {h : Heap} {mg : Str → Option Value} {x : Str} {st : Stmt} {ps : List Str} {f : Addr} {oc : Value} {od an : Option Addr} {osl : Array (Option Value)} {kV doc pm cdv ct : Value} (X : K.In h) (G : h.Ns mainGlobals mg)
    (a : PySem.W.nsIn K mainGlobals x = some (some (.ref f))) (l : K.lookup f = some ⟨oc, od, .func (PySem.W.fnOf x x (defArgs st) (defBody st) (defScope st) .none kV doc pm an cdv ct), osl⟩) (c : PySem.W.codeIn K cdv x = true) (k : PySem.W.keepIn K (.ref f) = true)
    (hb : ∀ (kV doc pm : Value) (an : Option Addr) (cdv ct : Value) (us : List Value), us.length = ps.length → bindArgs (PySem.W.fnOf x x (defArgs st) (defBody st) (defScope st) .none kV doc pm an cdv ct) ⟨us, []⟩ = pure (ps.zip us)) : Df K mg x st ps :=
  ⟨f, _, fun_mk l c k, (fun_mk (st := st) l c k).binds hb, PySem.W.mg_of X G a⟩
/-- what the top says of one class -/
structure One (K : PySem.W.Frag) (C fI : Addr) : Prop where
  oe : OexE K C
  ec : ExcC K C
  no : PySem.W.findIn K (.ref C) fld = some none
  ini : PySem.W.findIn K (.ref C) "__init__" = some (some (.ref fI))
theorem one_mk {K : PySem.W.Frag} {C fI N : Addr} {nm q : Str} {bs bm sub : List Value} {sn : List Str} {ab : Bool} {col : Option Bool} {dd : Option Addr} {k0 k1 k2 k3 k5 : Option Value}
    (l : K.lookup C = some (excClassObj nm q C N bs bm true sn sub ab col dd k0 k1 k2 k3 k5 "Exception.__new__")) (r : PySem.MyX.refsX bm = true) (sa : PySem.W.findIn K (.ref C) "__setattr__" = some (some (.builtin "object.__setattr__")))
    (ex : PySem.W.subIn K (.ref C) (.type "BaseException") = some true) (ty : PySem.W.typeIn K (.ref C) = some (.type "type")) (kc : PySem.W.keepIn K (.ref C) = true)
    (hg : PySem.W.findIn K (.ref C) "__getattribute__" = some (some (.builtin "BaseException.__getattribute__"))) (hk : PySem.W.findIn K (.ref C) "__getattr__" = some none) (hd : PySem.W.hasDictIn K C = true)
    (ha : PySem.W.findIn K (.ref C) "__class__" = some (some (.builtin "object.__class__"))) (hm : PySem.W.mroIn K C (.type "object") = some true)
    (hn : PySem.W.specialIn K (.builtin "object.__class__") "__get__" = some (some (.builtin "getset_descriptor.__get__"))) (ht : PySem.W.takesIn K (.builtin "object.__class__") = some true)
    (no : PySem.W.findIn K (.ref C) fld = some none) (ini : PySem.W.findIn K (.ref C) "__init__" = some (some (.ref fI))) : One K C fI :=
  ⟨⟨⟨nm, q, N, bs, bm, sn, sub, ab, col, dd, k0, k1, k2, k3, k5, l, r⟩, sa, ex, ty, kc⟩, ⟨hg, hk, ex, hd, ha, hn, ht, hm⟩, no, ini⟩
theorem kit_sub {K : PySem.W.Frag} {A C fI : Addr} {b : Bool} (o : One K C fI) (sc : PySem.W.subIn K (.ref C) (.ref C) = some true) (s : PySem.W.subIn K (.ref A) (.ref C) = some b) : PySem.W.kitOne K (.ref A) (.ref C) = some b := by
  unfold PySem.W.kitOne
  by_cases e : A = C
  · subst e
    rw [sc] at s
    cases s
    rw [if_pos (by simp)]
  · rw [if_neg (by simp [e])]
    obtain ⟨cd, hc, _⟩ := PySem.W.any_some o.ec.hd
    show (if ((PySem.W.clsIn K C).isSome && PySem.W.typeIn K (.ref C) == some (.type "type")) = true then _ else _) = some b
    rw [if_pos (by rw [hc, o.oe.tyC]; rfl)]
    exact s
theorem all_mk {l : PySem.W.OpenLaw} {w : World} {K : PySem.W.Frag} {h : Heap} {mg : Str → Option Value} {fa cc pp : Addr} {f0 : Addr} {oc0 kV0 dc0 pm0 cd0 ct0 : Value} {od0 an0 : Option Addr} {sl0 : Array (Option Value)} {f1 : Addr} {oc1 kV1 dc1 pm1 cd1 ct1 : Value} {od1 an1 : Option Addr} {sl1 : Array (Option Value)} {f2 : Addr} {oc2 kV2 dc2 pm2 cd2 ct2 : Value} {od2 an2 : Option Addr} {sl2 : Array (Option Value)} {f3 : Addr} {oc3 kV3 dc3 pm3 cd3 ct3 : Value} {od3 an3 : Option Addr} {sl3 : Array (Option Value)} {f4 : Addr} {oc4 kV4 dc4 pm4 cd4 ct4 : Value} {od4 an4 : Option Addr} {sl4 : Array (Option Value)} {f5 : Addr} {oc5 kV5 dc5 pm5 cd5 ct5 : Value} {od5 an5 : Option Addr} {sl5 : Array (Option Value)} {f6 : Addr} {oc6 kV6 dc6 pm6 cd6 ct6 : Value} {od6 an6 : Option Addr} {sl6 : Array (Option Value)} {f7 : Addr} {oc7 kV7 dc7 pm7 cd7 ct7 : Value} {od7 an7 : Option Addr} {sl7 : Array (Option Value)} {f8 : Addr} {oc8 kV8 dc8 pm8 cd8 ct8 : Value} {od8 an8 : Option Addr} {sl8 : Array (Option Value)} {f9 : Addr} {oc9 kV9 dc9 pm9 cd9 ct9 : Value} {od9 an9 : Option Addr} {sl9 : Array (Option Value)} {f10 : Addr} {oc10 kV10 dc10 pm10 cd10 ct10 : Value} {od10 an10 : Option Addr} {sl10 : Array (Option Value)} {f11 : Addr} {oc11 kV11 dc11 pm11 cd11 ct11 : Value} {od11 an11 : Option Addr} {sl11 : Array (Option Value)} {f12 : Addr} {oc12 kV12 dc12 pm12 cd12 ct12 : Value} {od12 an12 : Option Addr} {sl12 : Array (Option Value)} {f13 : Addr} {oc13 kV13 dc13 pm13 cd13 ct13 : Value} {od13 an13 : Option Addr} {sl13 : Array (Option Value)} {f14 : Addr} {oc14 kV14 dc14 pm14 cd14 ct14 : Value} {od14 an14 : Option Addr} {sl14 : Array (Option Value)} {f15 : Addr} {oc15 kV15 dc15 pm15 cd15 ct15 : Value} {od15 an15 : Option Addr} {sl15 : Array (Option Value)} {f16 : Addr} {oc16 kV16 dc16 pm16 cd16 ct16 : Value} {od16 an16 : Option Addr} {sl16 : Array (Option Value)} {f17 : Addr} {oc17 kV17 dc17 pm17 cd17 ct17 : Value} {od17 an17 : Option Addr} {sl17 : Array (Option Value)} {f18 : Addr} {oc18 kV18 dc18 pm18 cd18 ct18 : Value} {od18 an18 : Option Addr} {sl18 : Array (Option Value)} {f19 : Addr} {oc19 kV19 dc19 pm19 cd19 ct19 : Value} {od19 an19 : Option Addr} {sl19 : Array (Option Value)} {f20 : Addr} {oc20 kV20 dc20 pm20 cd20 ct20 : Value} {od20 an20 : Option Addr} {sl20 : Array (Option Value)} {f21 : Addr} {oc21 kV21 dc21 pm21 cd21 ct21 : Value} {od21 an21 : Option Addr} {sl21 : Array (Option Value)} {f22 : Addr} {oc22 kV22 dc22 pm22 cd22 ct22 : Value} {od22 an22 : Option Addr} {sl22 : Array (Option Value)} {f23 : Addr} {oc23 kV23 dc23 pm23 cd23 ct23 : Value} {od23 an23 : Option Addr} {sl23 : Array (Option Value)} {f24 : Addr} {oc24 kV24 dc24 pm24 cd24 ct24 : Value} {od24 an24 : Option Addr} {sl24 : Array (Option Value)} {f25 : Addr} {oc25 kV25 dc25 pm25 cd25 ct25 : Value} {od25 an25 : Option Addr} {sl25 : Array (Option Value)} {f26 : Addr} {oc26 kV26 dc26 pm26 cd26 ct26 : Value} {od26 an26 : Option Addr} {sl26 : Array (Option Value)} {f27 : Addr} {oc27 kV27 dc27 pm27 cd27 ct27 : Value} {od27 an27 : Option Addr} {sl27 : Array (Option Value)} {C0 C1 C2 fI TD : Addr} {ocI kVI dcI pmI cdI ctI : Value} {odI anI oD : Option Addr} {slI sD : Array (Option Value)} {nD : Nat} (X : K.In h) (G : h.Ns mainGlobals mg) (hfa : mg "law" = some (.ref fa)) (hcc : ∀ o fd, h.get? fa = some o → o.data = .func fd → fd.code = .ref cc)
    (a0 : PySem.W.nsIn K mainGlobals "is_list" = some (some (.ref f0))) (l0 : K.lookup f0 = some ⟨oc0, od0, .func (PySem.W.fnOf "is_list" "is_list" (defArgs sIsList) (defBody sIsList) (defScope sIsList) .none kV0 dc0 pm0 an0 cd0 ct0), sl0⟩) (c0 : PySem.W.codeIn K cd0 "is_list" = true) (k0 : PySem.W.keepIn K (.ref f0) = true)
    (a1 : PySem.W.nsIn K mainGlobals "is_script" = some (some (.ref f1))) (l1 : K.lookup f1 = some ⟨oc1, od1, .func (PySem.W.fnOf "is_script" "is_script" (defArgs sIsScript) (defBody sIsScript) (defScope sIsScript) .none kV1 dc1 pm1 an1 cd1 ct1), sl1⟩) (c1 : PySem.W.codeIn K cd1 "is_script" = true) (k1 : PySem.W.keepIn K (.ref f1) = true)
    (a2 : PySem.W.nsIn K mainGlobals "checked" = some (some (.ref f2))) (l2 : K.lookup f2 = some ⟨oc2, od2, .func (PySem.W.fnOf "checked" "checked" (defArgs sChecked) (defBody sChecked) (defScope sChecked) .none kV2 dc2 pm2 an2 cd2 ct2), sl2⟩) (c2 : PySem.W.codeIn K cd2 "checked" = true) (k2 : PySem.W.keepIn K (.ref f2) = true)
    (a3 : PySem.W.nsIn K mainGlobals "first_state" = some (some (.ref f3))) (l3 : K.lookup f3 = some ⟨oc3, od3, .func (PySem.W.fnOf "first_state" "first_state" (defArgs sFirst) (defBody sFirst) (defScope sFirst) .none kV3 dc3 pm3 an3 cd3 ct3), sl3⟩) (c3 : PySem.W.codeIn K cd3 "first_state" = true) (k3 : PySem.W.keepIn K (.ref f3) = true)
    (a4 : PySem.W.nsIn K mainGlobals "resting" = some (some (.ref f4))) (l4 : K.lookup f4 = some ⟨oc4, od4, .func (PySem.W.fnOf "resting" "resting" (defArgs sRest) (defBody sRest) (defScope sRest) .none kV4 dc4 pm4 an4 cd4 ct4), sl4⟩) (c4 : PySem.W.codeIn K cd4 "resting" = true) (k4 : PySem.W.keepIn K (.ref f4) = true)
    (a5 : PySem.W.nsIn K mainGlobals "opened_lock" = some (some (.ref f5))) (l5 : K.lookup f5 = some ⟨oc5, od5, .func (PySem.W.fnOf "opened_lock" "opened_lock" (defArgs sOpen) (defBody sOpen) (defScope sOpen) .none kV5 dc5 pm5 an5 cd5 ct5), sl5⟩) (c5 : PySem.W.codeIn K cd5 "opened_lock" = true) (k5 : PySem.W.keepIn K (.ref f5) = true)
    (a6 : PySem.W.nsIn K mainGlobals "working_lock" = some (some (.ref f6))) (l6 : K.lookup f6 = some ⟨oc6, od6, .func (PySem.W.fnOf "working_lock" "working_lock" (defArgs sWork) (defBody sWork) (defScope sWork) .none kV6 dc6 pm6 an6 cd6 ct6), sl6⟩) (c6 : PySem.W.codeIn K cd6 "working_lock" = true) (k6 : PySem.W.keepIn K (.ref f6) = true)
    (a7 : PySem.W.nsIn K mainGlobals "tried" = some (some (.ref f7))) (l7 : K.lookup f7 = some ⟨oc7, od7, .func (PySem.W.fnOf "tried" "tried" (defArgs sTried) (defBody sTried) (defScope sTried) .none kV7 dc7 pm7 an7 cd7 ct7), sl7⟩) (c7 : PySem.W.codeIn K cd7 "tried" = true) (k7 : PySem.W.keepIn K (.ref f7) = true)
    (a8 : PySem.W.nsIn K mainGlobals "moved" = some (some (.ref f8))) (l8 : K.lookup f8 = some ⟨oc8, od8, .func (PySem.W.fnOf "moved" "moved" (defArgs sMoved) (defBody sMoved) (defScope sMoved) .none kV8 dc8 pm8 an8 cd8 ct8), sl8⟩) (c8 : PySem.W.codeIn K cd8 "moved" = true) (k8 : PySem.W.keepIn K (.ref f8) = true)
    (a9 : PySem.W.nsIn K mainGlobals "waiting_ones" = some (some (.ref f9))) (l9 : K.lookup f9 = some ⟨oc9, od9, .func (PySem.W.fnOf "waiting_ones" "waiting_ones" (defArgs sWait) (defBody sWait) (defScope sWait) .none kV9 dc9 pm9 an9 cd9 ct9), sl9⟩) (c9 : PySem.W.codeIn K cd9 "waiting_ones" = true) (k9 : PySem.W.keepIn K (.ref f9) = true)
    (a10 : PySem.W.nsIn K mainGlobals "next_state" = some (some (.ref f10))) (l10 : K.lookup f10 = some ⟨oc10, od10, .func (PySem.W.fnOf "next_state" "next_state" (defArgs sNext) (defBody sNext) (defScope sNext) .none kV10 dc10 pm10 an10 cd10 ct10), sl10⟩) (c10 : PySem.W.codeIn K cd10 "next_state" = true) (k10 : PySem.W.keepIn K (.ref f10) = true)
    (a11 : PySem.W.nsIn K mainGlobals "is_number" = some (some (.ref f11))) (l11 : K.lookup f11 = some ⟨oc11, od11, .func (PySem.W.fnOf "is_number" "is_number" (defArgs sNum) (defBody sNum) (defScope sNum) .none kV11 dc11 pm11 an11 cd11 ct11), sl11⟩) (c11 : PySem.W.codeIn K cd11 "is_number" = true) (k11 : PySem.W.keepIn K (.ref f11) = true)
    (a12 : PySem.W.nsIn K mainGlobals "_law_fresh" = some (some (.ref f12))) (l12 : K.lookup f12 = some ⟨oc12, od12, .func (PySem.W.fnOf "_law_fresh" "_law_fresh" (defArgs sFresh) (defBody sFresh) (defScope sFresh) .none kV12 dc12 pm12 an12 cd12 ct12), sl12⟩) (c12 : PySem.W.codeIn K cd12 "_law_fresh" = true) (k12 : PySem.W.keepIn K (.ref f12) = true)
    (a13 : PySem.W.nsIn K mainGlobals "_law_fill" = some (some (.ref f13))) (l13 : K.lookup f13 = some ⟨oc13, od13, .func (PySem.W.fnOf "_law_fill" "_law_fill" (defArgs sFill) (defBody sFill) (defScope sFill) .none kV13 dc13 pm13 an13 cd13 ct13), sl13⟩) (c13 : PySem.W.codeIn K cd13 "_law_fill" = true) (k13 : PySem.W.keepIn K (.ref f13) = true)
    (a14 : PySem.W.nsIn K mainGlobals "_law_take" = some (some (.ref f14))) (l14 : K.lookup f14 = some ⟨oc14, od14, .func (PySem.W.fnOf "_law_take" "_law_take" (defArgs sTake) (defBody sTake) (defScope sTake) .none kV14 dc14 pm14 an14 cd14 ct14), sl14⟩) (c14 : PySem.W.codeIn K cd14 "_law_take" = true) (k14 : PySem.W.keepIn K (.ref f14) = true)
    (a15 : PySem.W.nsIn K mainGlobals "_law_one" = some (some (.ref f15))) (l15 : K.lookup f15 = some ⟨oc15, od15, .func (PySem.W.fnOf "_law_one" "_law_one" (defArgs sOne) (defBody sOne) (defScope sOne) .none kV15 dc15 pm15 an15 cd15 ct15), sl15⟩) (c15 : PySem.W.codeIn K cd15 "_law_one" = true) (k15 : PySem.W.keepIn K (.ref f15) = true)
    (a16 : PySem.W.nsIn K mainGlobals "_law_same" = some (some (.ref f16))) (l16 : K.lookup f16 = some ⟨oc16, od16, .func (PySem.W.fnOf "_law_same" "_law_same" (defArgs sSame) (defBody sSame) (defScope sSame) .none kV16 dc16 pm16 an16 cd16 ct16), sl16⟩) (c16 : PySem.W.codeIn K cd16 "_law_same" = true) (k16 : PySem.W.keepIn K (.ref f16) = true)
    (a17 : PySem.W.nsIn K mainGlobals "_law_script" = some (some (.ref f17))) (l17 : K.lookup f17 = some ⟨oc17, od17, .func (PySem.W.fnOf "_law_script" "_law_script" (defArgs sScript) (defBody sScript) (defScope sScript) .none kV17 dc17 pm17 an17 cd17 ct17), sl17⟩) (c17 : PySem.W.codeIn K cd17 "_law_script" = true) (k17 : PySem.W.keepIn K (.ref f17) = true)
    (a18 : PySem.W.nsIn K mainGlobals "_law_scripts" = some (some (.ref f18))) (l18 : K.lookup f18 = some ⟨oc18, od18, .func (PySem.W.fnOf "_law_scripts" "_law_scripts" (defArgs sScripts) (defBody sScripts) (defScope sScripts) .none kV18 dc18 pm18 an18 cd18 ct18), sl18⟩) (c18 : PySem.W.codeIn K cd18 "_law_scripts" = true) (k18 : PySem.W.keepIn K (.ref f18) = true)
    (a19 : PySem.W.nsIn K mainGlobals "_law_refused" = some (some (.ref f19))) (l19 : K.lookup f19 = some ⟨oc19, od19, .func (PySem.W.fnOf "_law_refused" "_law_refused" (defArgs sRefused) (defBody sRefused) (defScope sRefused) .none kV19 dc19 pm19 an19 cd19 ct19), sl19⟩) (c19 : PySem.W.codeIn K cd19 "_law_refused" = true) (k19 : PySem.W.keepIn K (.ref f19) = true)
    (a20 : PySem.W.nsIn K mainGlobals "_law_behind" = some (some (.ref f20))) (l20 : K.lookup f20 = some ⟨oc20, od20, .func (PySem.W.fnOf "_law_behind" "_law_behind" (defArgs sBehind) (defBody sBehind) (defScope sBehind) .none kV20 dc20 pm20 an20 cd20 ct20), sl20⟩) (c20 : PySem.W.codeIn K cd20 "_law_behind" = true) (k20 : PySem.W.keepIn K (.ref f20) = true)
    (a21 : PySem.W.nsIn K mainGlobals "_law_after" = some (some (.ref f21))) (l21 : K.lookup f21 = some ⟨oc21, od21, .func (PySem.W.fnOf "_law_after" "_law_after" (defArgs sAfter) (defBody sAfter) (defScope sAfter) .none kV21 dc21 pm21 an21 cd21 ct21), sl21⟩) (c21 : PySem.W.codeIn K cd21 "_law_after" = true) (k21 : PySem.W.keepIn K (.ref f21) = true)
    (a22 : PySem.W.nsIn K mainGlobals "_law_begun" = some (some (.ref f22))) (l22 : K.lookup f22 = some ⟨oc22, od22, .func (PySem.W.fnOf "_law_begun" "_law_begun" (defArgs sBegun) (defBody sBegun) (defScope sBegun) .none kV22 dc22 pm22 an22 cd22 ct22), sl22⟩) (c22 : PySem.W.codeIn K cd22 "_law_begun" = true) (k22 : PySem.W.keepIn K (.ref f22) = true)
    (a23 : PySem.W.nsIn K mainGlobals "_law_left" = some (some (.ref f23))) (l23 : K.lookup f23 = some ⟨oc23, od23, .func (PySem.W.fnOf "_law_left" "_law_left" (defArgs sLeft) (defBody sLeft) (defScope sLeft) .none kV23 dc23 pm23 an23 cd23 ct23), sl23⟩) (c23 : PySem.W.codeIn K cd23 "_law_left" = true) (k23 : PySem.W.keepIn K (.ref f23) = true)
    (a24 : PySem.W.nsIn K mainGlobals "_law_handed" = some (some (.ref f24))) (l24 : K.lookup f24 = some ⟨oc24, od24, .func (PySem.W.fnOf "_law_handed" "_law_handed" (defArgs sHanded) (defBody sHanded) (defScope sHanded) .none kV24 dc24 pm24 an24 cd24 ct24), sl24⟩) (c24 : PySem.W.codeIn K cd24 "_law_handed" = true) (k24 : PySem.W.keepIn K (.ref f24) = true)
    (a25 : PySem.W.nsIn K mainGlobals "_law_misused" = some (some (.ref f25))) (l25 : K.lookup f25 = some ⟨oc25, od25, .func (PySem.W.fnOf "_law_misused" "_law_misused" (defArgs sMis) (defBody sMis) (defScope sMis) .none kV25 dc25 pm25 an25 cd25 ct25), sl25⟩) (c25 : PySem.W.codeIn K cd25 "_law_misused" = true) (k25 : PySem.W.keepIn K (.ref f25) = true)
    (a26 : PySem.W.nsIn K mainGlobals "_law_odd_number" = some (some (.ref f26))) (l26 : K.lookup f26 = some ⟨oc26, od26, .func (PySem.W.fnOf "_law_odd_number" "_law_odd_number" (defArgs sOdd) (defBody sOdd) (defScope sOdd) .none kV26 dc26 pm26 an26 cd26 ct26), sl26⟩) (c26 : PySem.W.codeIn K cd26 "_law_odd_number" = true) (k26 : PySem.W.keepIn K (.ref f26) = true)
    (a27 : PySem.W.nsIn K mainGlobals "law" = some (some (.ref f27))) (l27 : K.lookup f27 = some ⟨oc27, od27, .func (PySem.W.fnOf "law" "law" (defArgs sLaw) (defBody sLaw) (defScope sLaw) .none kV27 dc27 pm27 an27 cd27 ct27), sl27⟩) (c27 : PySem.W.codeIn K cd27 "law" = true) (k27 : PySem.W.keepIn K (.ref f27) = true)
    (z_len : PySem.W.nsIn K mainGlobals "len" = some none)
    (z_int : PySem.W.nsIn K mainGlobals "int" = some none)
    (z_enumerate : PySem.W.nsIn K mainGlobals "enumerate" = some none)
    (z_bool : PySem.W.nsIn K mainGlobals "bool" = some none)
    (z_list : PySem.W.nsIn K mainGlobals "list" = some none)
    (z_tuple : PySem.W.nsIn K mainGlobals "tuple" = some none)
    (z_isinstance : PySem.W.nsIn K mainGlobals "isinstance" = some none)
    (z_all : PySem.W.nsIn K mainGlobals "all" = some none)
    (z_zip : PySem.W.nsIn K mainGlobals "zip" = some none)
    (z_range : PySem.W.nsIn K mainGlobals "range" = some none)
    (z_max : PySem.W.nsIn K mainGlobals "max" = some none)
    (z_min : PySem.W.nsIn K mainGlobals "min" = some none)
    (z_str : PySem.W.nsIn K mainGlobals "str" = some none)
    (z_repr : PySem.W.nsIn K mainGlobals "repr" = some none)
    {t_NO_LOCK : Tok} (tNO_LOCK : PySem.W.nsIn K mainGlobals "NO_LOCK" = some (some (.int 0 t_NO_LOCK)))
    {t_SHARED : Tok} (tSHARED : PySem.W.nsIn K mainGlobals "SHARED" = some (some (.int 1 t_SHARED)))
    {t_RESERVED : Tok} (tRESERVED : PySem.W.nsIn K mainGlobals "RESERVED" = some (some (.int 2 t_RESERVED)))
    {t_PENDING : Tok} (tPENDING : PySem.W.nsIn K mainGlobals "PENDING" = some (some (.int 3 t_PENDING)))
    {t_EXCLUSIVE : Tok} (tEXCLUSIVE : PySem.W.nsIn K mainGlobals "EXCLUSIVE" = some (some (.int 4 t_EXCLUSIVE)))
    {aTOPENING : Addr} {oTOPENING : Option Addr} {nTOPENING : Nat} {sTOPENING : Array (Option Value)} {qOPENING0 qOPENING1 qOPENING2 : Tok} (tTOPENING : PySem.W.nsIn K mainGlobals "OPENING" = some (some (.ref aTOPENING))) (lTOPENING : K.lookup aTOPENING = some ⟨.type "tuple", oTOPENING, .seq #[.str (Str.ofString "begin") qOPENING0, .str (Str.ofString "immediate") qOPENING1, .str (Str.ofString "exclusive") qOPENING2] nTOPENING, sTOPENING⟩)
    {aTENDING : Addr} {oTENDING : Option Addr} {nTENDING : Nat} {sTENDING : Array (Option Value)} {qENDING0 qENDING1 : Tok} (tTENDING : PySem.W.nsIn K mainGlobals "ENDING" = some (some (.ref aTENDING))) (lTENDING : K.lookup aTENDING = some ⟨.type "tuple", oTENDING, .seq #[.str (Str.ofString "commit") qENDING0, .str (Str.ofString "rollback") qENDING1] nTENDING, sTENDING⟩)
    {aTOTHERS : Addr} {oTOTHERS : Option Addr} {nTOTHERS : Nat} {sTOTHERS : Array (Option Value)} {qOTHERS0 qOTHERS1 qOTHERS2 qOTHERS3 : Tok} (tTOTHERS : PySem.W.nsIn K mainGlobals "OTHERS" = some (some (.ref aTOTHERS))) (lTOTHERS : K.lookup aTOTHERS = some ⟨.type "tuple", oTOTHERS, .seq #[.str (Str.ofString "read") qOTHERS0, .str (Str.ofString "start") qOTHERS1, .str (Str.ofString "stop") qOTHERS2, .str (Str.ofString "write") qOTHERS3] nTOTHERS, sTOTHERS⟩)
    (gc0 : PySem.W.nsIn K mainGlobals "Error" = some (some (.ref C0)))
    (gc1 : PySem.W.nsIn K mainGlobals "DatabaseError" = some (some (.ref C1)))
    (gc2 : PySem.W.nsIn K mainGlobals "ProgrammingError" = some (some (.ref C2)))
    (inI : PySem.W.findIn K (.ref C0) "__init__" = some (some (.ref fI))) (lI : K.lookup fI = some ⟨ocI, odI, .func (PySem.W.fnOf "__init__" "Error.__init__" (defArgs sInit) (defBody sInit) (defScope sInit) (.ref TD) kVI dcI pmI anI cdI ctI), slI⟩) (cI : PySem.W.codeIn K cdI "Error.__init__" = true) (kI : PySem.W.keepIn K (.ref fI) = true) (tI : PySem.W.typeIn K (.ref fI) = some (.type "function")) (lD : K.lookup TD = some ⟨.type "tuple", oD, .seq #[.none] nD, sD⟩)
    (on1 : One K C1 fI)
    (on2 : One K C2 fI)
    (q11 : PySem.W.subIn K (.ref C1) (.ref C1) = some true)
    (q21 : PySem.W.subIn K (.ref C2) (.ref C1) = some true)
    (q22 : PySem.W.subIn K (.ref C2) (.ref C2) = some true) :
    ∃ fd : FuncData, (∀ (s : Shared) (v : Value), BindsTo s fd ⟨[v], []⟩ [("_law_script_here", v)]) ∧ ∀ base : Heap, K.In base → base.Ns mainGlobals mg → LamX.TabB base mg cc pp → FnG l.prog w K mg base 8 fa fd ["_law_script_here"] (spLaw K pp) := by
  have e := hfa.symm.trans (PySem.W.mg_of X G a27)
  cases e
  have T : Tx mg := ⟨PySem.W.mg_none_of X G z_len, PySem.W.mg_none_of X G z_int, PySem.W.mg_none_of X G z_enumerate⟩
  have T2 : Ty mg := ⟨PySem.W.mg_none_of X G z_len, PySem.W.mg_none_of X G z_int, PySem.W.mg_none_of X G z_bool, PySem.W.mg_none_of X G z_list, PySem.W.mg_none_of X G z_tuple, PySem.W.mg_none_of X G z_isinstance, PySem.W.mg_none_of X G z_all, PySem.W.mg_none_of X G z_zip⟩
  have Tk0 : Tk K mg := ⟨⟨_, PySem.W.mg_of X G tNO_LOCK⟩, ⟨_, PySem.W.mg_of X G tSHARED⟩, ⟨_, PySem.W.mg_of X G tRESERVED⟩, ⟨_, PySem.W.mg_of X G tPENDING⟩, ⟨_, PySem.W.mg_of X G tEXCLUSIVE⟩, ⟨aTOPENING, PySem.W.mg_of X G tTOPENING, fun H => .inr ⟨_, _, _, lTOPENING, rfl, rfl, (by show 3 ≤ sizeLine; decide), .cons ⟨_, rfl⟩ (.cons ⟨_, rfl⟩ (.cons ⟨_, rfl⟩ .nil))⟩⟩, ⟨aTENDING, PySem.W.mg_of X G tTENDING, fun H => .inr ⟨_, _, _, lTENDING, rfl, rfl, (by show 2 ≤ sizeLine; decide), .cons ⟨_, rfl⟩ (.cons ⟨_, rfl⟩ .nil)⟩⟩, ⟨aTOTHERS, PySem.W.mg_of X G tTOTHERS, fun H => .inr ⟨_, _, _, lTOTHERS, rfl, rfl, (by show 4 ≤ sizeLine; decide), .cons ⟨_, rfl⟩ (.cons ⟨_, rfl⟩ (.cons ⟨_, rfl⟩ (.cons ⟨_, rfl⟩ .nil)))⟩⟩, PySem.W.mg_none_of X G z_max⟩
  have Tw0 : Tw mg := ⟨PySem.W.mg_none_of X G z_range, PySem.W.mg_none_of X G z_repr⟩
  have FI0 : FI K fI (PySem.W.fnOf "__init__" "Error.__init__" (defArgs sInit) (defBody sInit) (defScope sInit) (.ref TD) kVI dcI pmI anI cdI ctI) :=
    ⟨⟨ocI, odI, _, kVI, dcI, pmI, anI, cdI, ctI, slI, rfl, lI, cI, .inr ⟨by decide, TD, _, [.none], nD, rfl, lD, rfl, .cons rfl .nil⟩, .inl rfl⟩, kI⟩
  have T3 : Cls3 K mg C0 C1 C2 fI := ⟨on2.oe, on2.ec, on2.no, on2.ini, tI, PySem.W.mg_of X G gc0, PySem.W.mg_of X G gc1, PySem.W.mg_of X G gc2, kit_sub on1 q11 q21, PySem.W.exm_ref on2.ec.hs on2.ec.hd on2.oe.tyC q22⟩
  have D0 : Df K mg "is_list" sIsList ["thing"] := df_mk X G a0 l0 c0 k0 fun _ _ _ _ _ _ us hl => match us, hl with | [_], _ => rfl
  have D1 : Df K mg "is_script" sIsScript ["thing"] := df_mk X G a1 l1 c1 k1 fun _ _ _ _ _ _ us hl => match us, hl with | [_], _ => rfl
  have D2 : Df K mg "checked" sChecked ["scripts"] := df_mk X G a2 l2 c2 k2 fun _ _ _ _ _ _ us hl => match us, hl with | [_], _ => rfl
  have D3 : Df K mg "first_state" sFirst ["scripts"] := df_mk X G a3 l3 c3 k3 fun _ _ _ _ _ _ us hl => match us, hl with | [_], _ => rfl
  have D4 : Df K mg "resting" sRest ["reads"] := df_mk X G a4 l4 c4 k4 fun _ _ _ _ _ _ us hl => match us, hl with | [_], _ => rfl
  have D5 : Df K mg "opened_lock" sOpen ["step", "lock", "other"] := df_mk X G a5 l5 c5 k5 fun _ _ _ _ _ _ us hl => match us, hl with | [_, _, _], _ => rfl
  have D6 : Df K mg "working_lock" sWork ["step", "row", "other"] := df_mk X G a6 l6 c6 k6 fun _ _ _ _ _ _ us hl => match us, hl with | [_, _, _], _ => rfl
  have D7 : Df K mg "tried" sTried ["step", "row", "other"] := df_mk X G a7 l7 c7 k7 fun _ _ _ _ _ _ us hl => match us, hl with | [_, _, _], _ => rfl
  have D8 : Df K mg "moved" sMoved ["scripts", "state", "at"] := df_mk X G a8 l8 c8 k8 fun _ _ _ _ _ _ us hl => match us, hl with | [_, _, _], _ => rfl
  have D9 : Df K mg "waiting_ones" sWait ["scripts", "state"] := df_mk X G a9 l9 c9 k9 fun _ _ _ _ _ _ us hl => match us, hl with | [_, _], _ => rfl
  have D10 : Df K mg "next_state" sNext ["scripts", "state", "at"] := df_mk X G a10 l10 c10 k10 fun _ _ _ _ _ _ us hl => match us, hl with | [_, _, _], _ => rfl
  have D11 : Df K mg "is_number" sNum ["thing", "many"] := df_mk X G a11 l11 c11 k11 fun _ _ _ _ _ _ us hl => match us, hl with | [_, _], _ => rfl
  have D12 : Df K mg "_law_fresh" sFresh ["_law_script_here"] := df_mk X G a12 l12 c12 k12 fun _ _ _ _ _ _ us hl => match us, hl with | [_], _ => rfl
  have D13 : Df K mg "_law_fill" sFill ["_law_state"] := df_mk X G a13 l13 c13 k13 fun _ _ _ _ _ _ us hl => match us, hl with | [_], _ => rfl
  have D14 : Df K mg "_law_take" sTake ["_law_state", "_law_many"] := df_mk X G a14 l14 c14 k14 fun _ _ _ _ _ _ us hl => match us, hl with | [_, _], _ => rfl
  have D15 : Df K mg "_law_one" sOne ["_law_state", "_law_things"] := df_mk X G a15 l15 c15 k15 fun _ _ _ _ _ _ us hl => match us, hl with | [_, _], _ => rfl
  have D16 : Df K mg "_law_same" sSame ["_law_found", "_law_due"] := df_mk X G a16 l16 c16 k16 fun _ _ _ _ _ _ us hl => match us, hl with | [_, _], _ => rfl
  have D17 : Df K mg "_law_script" sScript ["_law_state", "_law_many"] := df_mk X G a17 l17 c17 k17 fun _ _ _ _ _ _ us hl => match us, hl with | [_, _], _ => rfl
  have D18 : Df K mg "_law_scripts" sScripts ["_law_state", "_law_most", "_law_many"] := df_mk X G a18 l18 c18 k18 fun _ _ _ _ _ _ us hl => match us, hl with | [_, _, _], _ => rfl
  have D19 : Df K mg "_law_refused" sRefused ["_law_word", "_law_opened", "_law_lock", "_law_top"] := df_mk X G a19 l19 c19 k19 fun _ _ _ _ _ _ us hl => match us, hl with | [_, _, _, _], _ => rfl
  have D20 : Df K mg "_law_behind" sBehind ["_law_word", "_law_opened", "_law_reads", "_law_lock"] := df_mk X G a20 l20 c20 k20 fun _ _ _ _ _ _ us hl => match us, hl with | [_, _, _, _], _ => rfl
  have D21 : Df K mg "_law_after" sAfter ["_law_scripts_here", "_law_here", "_law_at"] := df_mk X G a21 l21 c21 k21 fun _ _ _ _ _ _ us hl => match us, hl with | [_, _, _], _ => rfl
  have D22 : Df K mg "_law_begun" sBegun ["_law_scripts_here"] := df_mk X G a22 l22 c22 k22 fun _ _ _ _ _ _ us hl => match us, hl with | [_], _ => rfl
  have D23 : Df K mg "_law_left" sLeft ["_law_scripts_here", "_law_here"] := df_mk X G a23 l23 c23 k23 fun _ _ _ _ _ _ us hl => match us, hl with | [_, _], _ => rfl
  have D24 : Df K mg "_law_handed" sHanded ["_law_state", "_law_thing"] := df_mk X G a24 l24 c24 k24 fun _ _ _ _ _ _ us hl => match us, hl with | [_, _], _ => rfl
  have D25 : Df K mg "_law_misused" sMis ["_law_deed"] := df_mk X G a25 l25 c25 k25 fun _ _ _ _ _ _ us hl => match us, hl with | [_], _ => rfl
  have D26 : Df K mg "_law_odd_number" sOdd ["_law_state", "_law_many"] := df_mk X G a26 l26 c26 k26 fun _ _ _ _ _ _ us hl => match us, hl with | [_, _], _ => rfl
  have hcd : cd27 = .ref cc := hcc _ _ (X _ _ l27) rfl
  refine ⟨PySem.W.fnOf "law" "law" (defArgs sLaw) (defBody sLaw) (defScope sLaw) .none kV27 dc27 pm27 an27 cd27 ct27, fun s v => .of_eq rfl, fun base _ _ TB => ?_⟩
  have Pil := pr_isList (P := l.prog) (w := w) (base := base) D0 T2
  have Pis := pr_isScript (P := l.prog) (w := w) (base := base) D1 T2 (PySem.W.mg_none_of X G z_str) Tk0 Pil
  have Pck := pr_checked D2 T2 Pil Pis
  have Pfi := pr_first D3 T2 Tk0 Pck
  have Pre := pr_rest (P := l.prog) (w := w) (base := base) D4 Tk0
  have Pop := pr_open (P := l.prog) (w := w) (base := base) D5 Tk0
  have Pwk := pr_work D6 Tk0 Pre
  have Ptr := pr_tried D7 Tk0 Pre Pop Pwk
  have Pmo := pr_moved D8 T Tk0 Ptr
  have Pwa := pr_wait (P := l.prog) (w := w) (base := base) D9 T
  have Pnu := pr_num (P := l.prog) (w := w) (base := base) D11 T2
  have Pne := pr_next D10 T2 FI0 T3 Pck Pnu Pwa Pmo
  have P1 := pr_fresh (P := l.prog) (w := w) (base := base) D12
  have P2 := pr_fill (P := l.prog) (w := w) (base := base) D13 T
  have P3 := pr_take D14 T P2
  have P4 := pr_one D15 T P3
  have P5 := pr_same (P := l.prog) (w := w) (base := base) D16 T2 3
  have P6 := pr_same (P := l.prog) (w := w) (base := base) D16 T2 4
  have Psc := pr_script D17 T T2 (PySem.W.mg_none_of X G z_range) (PySem.W.mg_none_of X G z_min) P3 P4
  have Pss := pr_scripts D18 T2 (PySem.W.mg_none_of X G z_range) P3 Psc
  have Prf := pr_refused (P := l.prog) (w := w) (base := base) D19
  have Pbe := pr_behind (P := l.prog) (w := w) (base := base) D20 T (PySem.W.mg_none_of X G z_max)
  have Paf := pr_after D21 T (PySem.W.mg_none_of X G z_max) Prf Pbe
  have Pbg := pr_begun (P := l.prog) (w := w) (base := base) D22 T2
  have Ple := pr_left (P := l.prog) (w := w) (base := base) D23 T (PySem.W.mg_none_of X G z_range)
  have Pha := pr_handed D24 T2 P3 3
  have Pod := pr_odd D26 P4
  exact ok_law (fun_mk l27 c27 k27) hcd TB T2 Tw0 T3 D25 P1 P3 Pss Pha Pbg P5 P6 Pfi Pod Ple Paf Pne
theorem walk {l : PySem.W.OpenLaw} {q : Program} {loose : List Str} {XP : (Str → Option Value) → Heap → Prop} {YP : World → Heap → Prop} {d : DefRec} {K : Params → PySem.W.Frag} (hn : l.most = some 63) (hdf : d.params.defaults = [])
    (hY : ∀ (w : World) (h : Heap), YP w h → (K w.params).In h) (hd : d ∈ PyProof.Rows.recsOf q) (hK : ∀ w : World, PySem.W.noTabs (K w.params) = true)
    (F : ∀ (w : World) (mg : Str → Option Value) (fa c p : Addr) (h : Heap), (K w.params).In h → h.Ns mainGlobals mg → mg d.name = some (.ref fa) → (∀ o fd, h.get? fa = some o → o.data = .func fd → fd.code = .ref c) →
      ∃ fd : FuncData, (∀ (s : Shared) (u : Value), BindsTo s fd ⟨[u], []⟩ [("_law_script_here", u)]) ∧ ∀ base : Heap, (K w.params).In base → base.Ns mainGlobals mg → LamX.TabB base mg c p → FnG l.prog w (K w.params) mg base 8 fa fd ["_law_script_here"] (spLaw (K w.params) p)) :
    PySem.W.WalkO q loose XP YP l.row.toRowW d [] (fun f vs => PySem.call f vs) :=
  walk_ofH (n := 63) (k := 8) (x := "_law_script_here") (sp := fun w p => spLaw (K w.params) p) hn (by decide) hdf ⟨rfl, by decide, by decide⟩ hY hd hK F (fun _ _ a p ns hl hp hS => ⟨a, ns, rfl, hS, hl, hp, fun _ => rfl⟩)
end C78
open PySem PySem.W PyProof.Rows
set_option maxRecDepth 100000 in
set_option maxHeartbeats 0 in
theorem PySem.Challenge.cw_cursorhouse_k78_steps_of_scripts_holds : PySem.Challenge.rw_cursorhouse_k78_steps_of_scripts.Holds := by
  w_on; o_law; k_head; (case hw => w_witness2)
  k_fill
  refine C78.walk (l := PySem.Challenge.rw_cursorhouse_k78_steps_of_scripts) rfl rfl (fun w h Y => PySem.W.km_in_of Y) ?hd ?hK ?F
  case hd => exact List.mem_of_find?_eq_some (p := fun e : DefRec => e.name == "law") (by rfl)
  case hK => exact fun w => rfl
  case F =>
    intro w mg fa cc pp h KX G hmg hcc
    refine' C78.all_mk KX G hmg hcc ?a0 ?l0 ?c0 ?k0 ?a1 ?l1 ?c1 ?k1 ?a2 ?l2 ?c2 ?k2 ?a3 ?l3 ?c3 ?k3 ?a4 ?l4 ?c4 ?k4 ?a5 ?l5 ?c5 ?k5 ?a6 ?l6 ?c6 ?k6 ?a7 ?l7 ?c7 ?k7 ?a8 ?l8 ?c8 ?k8 ?a9 ?l9 ?c9 ?k9 ?a10 ?l10 ?c10 ?k10 ?a11 ?l11 ?c11 ?k11 ?a12 ?l12 ?c12 ?k12 ?a13 ?l13 ?c13 ?k13 ?a14 ?l14 ?c14 ?k14 ?a15 ?l15 ?c15 ?k15 ?a16 ?l16 ?c16 ?k16 ?a17 ?l17 ?c17 ?k17 ?a18 ?l18 ?c18 ?k18 ?a19 ?l19 ?c19 ?k19 ?a20 ?l20 ?c20 ?k20 ?a21 ?l21 ?c21 ?k21 ?a22 ?l22 ?c22 ?k22 ?a23 ?l23 ?c23 ?k23 ?a24 ?l24 ?c24 ?k24 ?a25 ?l25 ?c25 ?k25 ?a26 ?l26 ?c26 ?k26 ?a27 ?l27 ?c27 ?k27 ?z_len ?z_int ?z_enumerate ?z_bool ?z_list ?z_tuple ?z_isinstance ?z_all ?z_zip ?z_range ?z_max ?z_min ?z_str ?z_repr ?tNO_LOCK ?tSHARED ?tRESERVED ?tPENDING ?tEXCLUSIVE ?tTOPENING ?lTOPENING ?tTENDING ?lTENDING ?tTOTHERS ?lTOTHERS ?gc0 ?gc1 ?gc2 ?inI ?lI ?cI ?kI ?tI ?lD ?on1 ?on2 ?q11 ?q21 ?q22
    (case a0 => k_is)
    (case l0 => k_is)
    (case c0 => k_is)
    (case k0 => k_is)
    (case a1 => k_is)
    (case l1 => k_is)
    (case c1 => k_is)
    (case k1 => k_is)
    (case a2 => k_is)
    (case l2 => k_is)
    (case c2 => k_is)
    (case k2 => k_is)
    (case a3 => k_is)
    (case l3 => k_is)
    (case c3 => k_is)
    (case k3 => k_is)
    (case a4 => k_is)
    (case l4 => k_is)
    (case c4 => k_is)
    (case k4 => k_is)
    (case a5 => k_is)
    (case l5 => k_is)
    (case c5 => k_is)
    (case k5 => k_is)
    (case a6 => k_is)
    (case l6 => k_is)
    (case c6 => k_is)
    (case k6 => k_is)
    (case a7 => k_is)
    (case l7 => k_is)
    (case c7 => k_is)
    (case k7 => k_is)
    (case a8 => k_is)
    (case l8 => k_is)
    (case c8 => k_is)
    (case k8 => k_is)
    (case a9 => k_is)
    (case l9 => k_is)
    (case c9 => k_is)
    (case k9 => k_is)
    (case a10 => k_is)
    (case l10 => k_is)
    (case c10 => k_is)
    (case k10 => k_is)
    (case a11 => k_is)
    (case l11 => k_is)
    (case c11 => k_is)
    (case k11 => k_is)
    (case a12 => k_is)
    (case l12 => k_is)
    (case c12 => k_is)
    (case k12 => k_is)
    (case a13 => k_is)
    (case l13 => k_is)
    (case c13 => k_is)
    (case k13 => k_is)
    (case a14 => k_is)
    (case l14 => k_is)
    (case c14 => k_is)
    (case k14 => k_is)
    (case a15 => k_is)
    (case l15 => k_is)
    (case c15 => k_is)
    (case k15 => k_is)
    (case a16 => k_is)
    (case l16 => k_is)
    (case c16 => k_is)
    (case k16 => k_is)
    (case a17 => k_is)
    (case l17 => k_is)
    (case c17 => k_is)
    (case k17 => k_is)
    (case a18 => k_is)
    (case l18 => k_is)
    (case c18 => k_is)
    (case k18 => k_is)
    (case a19 => k_is)
    (case l19 => k_is)
    (case c19 => k_is)
    (case k19 => k_is)
    (case a20 => k_is)
    (case l20 => k_is)
    (case c20 => k_is)
    (case k20 => k_is)
    (case a21 => k_is)
    (case l21 => k_is)
    (case c21 => k_is)
    (case k21 => k_is)
    (case a22 => k_is)
    (case l22 => k_is)
    (case c22 => k_is)
    (case k22 => k_is)
    (case a23 => k_is)
    (case l23 => k_is)
    (case c23 => k_is)
    (case k23 => k_is)
    (case a24 => k_is)
    (case l24 => k_is)
    (case c24 => k_is)
    (case k24 => k_is)
    (case a25 => k_is)
    (case l25 => k_is)
    (case c25 => k_is)
    (case k25 => k_is)
    (case a26 => k_is)
    (case l26 => k_is)
    (case c26 => k_is)
    (case k26 => k_is)
    (case a27 => k_is)
    (case l27 => k_is)
    (case c27 => k_is)
    (case k27 => k_is)
    (case z_len => k_is)
    (case z_int => k_is)
    (case z_enumerate => k_is)
    (case z_bool => k_is)
    (case z_list => k_is)
    (case z_tuple => k_is)
    (case z_isinstance => k_is)
    (case z_all => k_is)
    (case z_zip => k_is)
    (case z_range => k_is)
    (case z_max => k_is)
    (case z_min => k_is)
    (case z_str => k_is)
    (case z_repr => k_is)
    (case tNO_LOCK => k_is)
    (case tSHARED => k_is)
    (case tRESERVED => k_is)
    (case tPENDING => k_is)
    (case tEXCLUSIVE => k_is)
    (case tTOPENING => k_is)
    (case lTOPENING => k_is)
    (case tTENDING => k_is)
    (case lTENDING => k_is)
    (case tTOTHERS => k_is)
    (case lTOTHERS => k_is)
    (case gc0 => k_is)
    (case gc1 => k_is)
    (case gc2 => k_is)
    (case inI => k_is)
    (case lI => k_is)
    (case cI => k_is)
    (case kI => k_is)
    (case tI => k_is)
    (case lD => k_is)
    (case on1 => refine' C78.one_mk ?l ?r ?sa ?ex ?ty ?kc ?hg ?hk ?hd ?ha ?hm ?hn ?ht ?no ?ini; (case l => k_is); (case r => decide +kernel); (case sa => k_is); (case ex => k_is); (case ty => k_is); (case kc => k_is); (case hg => k_is); (case hk => k_is); (case hd => k_is); (case ha => k_is); (case hm => k_is); (case hn => k_is); (case ht => k_is); (case no => k_is); (case ini => k_is))
    (case on2 => refine' C78.one_mk ?l ?r ?sa ?ex ?ty ?kc ?hg ?hk ?hd ?ha ?hm ?hn ?ht ?no ?ini; (case l => k_is); (case r => decide +kernel); (case sa => k_is); (case ex => k_is); (case ty => k_is); (case kc => k_is); (case hg => k_is); (case hk => k_is); (case hd => k_is); (case ha => k_is); (case hm => k_is); (case hn => k_is); (case ht => k_is); (case no => k_is); (case ini => k_is))
    (case q11 => k_is)
    (case q21 => k_is)
    (case q22 => k_is)
#print axioms PySem.Challenge.cw_cursorhouse_k78_steps_of_scripts_holds
