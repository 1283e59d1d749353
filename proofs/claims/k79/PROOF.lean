import PyProof.Rows.All
import Wide.All
import OpenK.AllK
import Wide.FinOn
import HandS.ForMost
import HandS.Walk
import HandS.Evl
import HandS.IsInst
import HandS.StrMore
import HandS.Flow
import HandS.Style
import HandS.Replace
import KE.GoesMore
import HandS.Zip
import HandS.SortKw
import KE.DataMinMax
import HandS.TupAny
import PyProof.ReprRoads
import HandS.Dict
import HandS.ForExc
import HandS.ExcInit
import HandS.ExcIs
import HandS.ExcField
import HandS.TryMany
import KE.KExcIs
import HandS.Defaults
import HandS.Lambda
import KE.KRevSl
import HandS.EndTab
import PySem.Challenge.RW_cursorhouse_k79_scripts_refused
set_option Elab.async false
set_option maxRecDepth 100000
set_option maxHeartbeats 4000000
/-! Own rules beside the layer: enumerate over a tuple. -/
namespace My
open PySem L2 PyProof.Rows
theorem meets_enumT (l : Addr) (items : Array Value) (n : Nat) (dct : Option Addr) (sl : Array (Option Value)) :
    Meets (Builtin.«enumerate.__new__» ⟨[.type "enumerate", .ref l], []⟩) (fun _ R s => s.heap.get? l = some { cls := .type "tuple", dict := dct, data := .seq items n, slots := sl } ∧
      R (.ok (.ret (.ref (s.heap.push { cls := .type "tuple_iterator", data := .fields #[.ref l, .int 0 0] }).objs.size)))
        { s with heap := (s.heap.push { cls := .type "tuple_iterator", data := .fields #[.ref l, .int 0 0] }).push { cls := .type "enumerate", data := .fields #[.none, .bool false, .ref s.heap.objs.size, rawInt 0, .none, .none] } }) :=
  .of_wp fun prog w A R s h => by
    obtain ⟨hp, g, d, tk, os⟩ := s
    obtain ⟨hl, h⟩ := h
    have hsub := sub_enumerate
    have hL : Heap.IsTuple (Shared.heap ⟨hp, g, d, tk, os⟩) l items := ⟨_, hl, rfl, n, rfl⟩
    wp_walk using AutoSeq1.wpAny_loadPart' hl
    refine wpAny_stack_any fun st => wpAny_pure ?_
    split
    · rename_i c _ _ _ _ _
      cases (c == Value.type "enumerate")
      · wp_walk using AutoSeq1.wpAny_loadPart' hl, wpAny_pyIter_tuple hL
        exact ⟨_, rfl, h⟩
      · wp_walk using AutoSeq1.wpAny_loadPart' hl, wpAny_pyIter_tuple hL
        exact ⟨_, rfl, h⟩
    · wp_walk using AutoSeq1.wpAny_loadPart' hl, wpAny_pyIter_tuple hL
      exact ⟨_, rfl, h⟩
section
variable {prog : Program} {w : World} {A : Around} {E : Value → Shared → Prop} {s : Shared}
theorem call_enumT {l : Addr} {items : Array Value} {Q : Value → Shared → Prop} (hL : s.heap.IsTuple l items)
    (h : ∀ h', IsEnum h' (s.heap.objs.size + 1) s.heap.objs.size 0 .none → h'.IsTupleIter s.heap.objs.size l 0 → h'.objs.size = s.heap.objs.size + 2 →
      (∀ b o, s.heap.get? b = some o → h'.get? b = some o) → Q (.ref (s.heap.objs.size + 1)) { s with heap := h' }) :
    wpAny (model prog w) A (call (.type "enumerate") [.ref l]) Q E s := by
  obtain ⟨⟨c, dct, dt, sl⟩, hl, hc, n, hd⟩ := hL
  replace hc : c = .type "tuple" := hc
  replace hd : dt = .seq items n := hd
  subst hc hd
  refine callType_new F.called_enumerate (by decide) (F.typeCall_enumerate_1 _) (F.newCall_enumerate_1 _) (fun obj => F.args_object_init_2 obj _) F.entry_enumerate_new
    (meets_enumT l items n dct sl) ⟨hl, ?_⟩
  have hz : (s.heap.push { cls := .type "tuple_iterator", data := .fields #[.ref l, .int 0 0] }).objs.size = s.heap.objs.size + 1 := Heap.size_push ..
  show _ ∧ _
  rw [hz]
  have he : IsEnum ((s.heap.push { cls := .type "tuple_iterator", data := .fields #[.ref l, .int 0 0] }).push
      { cls := .type "enumerate", data := .fields #[.none, .bool false, .ref s.heap.objs.size, rawInt 0, .none, .none] }) (s.heap.objs.size + 1) s.heap.objs.size 0 .none := by
    have := Heap.get?_push_size (s.heap.push { cls := .type "tuple_iterator", data := .fields #[.ref l, .int 0 0] })
      (o := { cls := .type "enumerate", data := .fields #[.none, .bool false, .ref s.heap.objs.size, rawInt 0, .none, .none] }) rfl
    rw [hz] at this
    exact this
  exact ⟨⟨_, he, rfl⟩, h _ he ⟨_, Heap.get?_push_of_some _ (Heap.get?_push_size _ rfl), rfl, rfl⟩ (by rw [Heap.size_push, hz]) fun b o x => Heap.get?_push_of_some _ (Heap.get?_push_of_some _ x)⟩
theorem enumT_end {e it l : Addr} {i : Nat} {items : Array Value} {old : Value} {Q : Option Value → Shared → Prop} (hh : A.handled = none)
    (he : IsEnum s.heap e it i old) (hit : s.heap.IsTupleIter it l i) (hl : s.heap.IsTuple l items) (hx : items[i]? = none)
    (hQ : ∀ h', Heap.ExtBut it s.heap h' → Q none { s with heap := h' }) : wpAny (model prog w) A (pyNext (.ref e)) Q E s := by
  have tE : s.TypeIs (.ref e) "enumerate" := ⟨_, he, rfl⟩
  unfold pyNext
  refine wpAny_bind (wpAny_attempt (wpAny_callSpecial?_slot (name := Str.ofString "__next__") tE F.slot_enumerate_next
    (wpAny_call_entry F.slot_enumerate_next tE F.entry_enumerate_next ?_ (F.args_enumerate_next_1 _))))
  show wpAny _ _ (field (.ref e) 2 >>= _) _ _ _
  refine wpAny_bind (wpAny_field he rfl (x := .ref it) rfl ?_)
  refine wpAny_bind (wpAny_nextOf_tuple_end hh hit hl hx fun h' x he' hx' => ?_)
  obtain ⟨o, ho, hc⟩ := hx'
  refine wpAny_bind (wpAny_isInstance (T := "StopIteration") (b := true) ⟨o, ho, hc⟩ isSubtype_stop ?_)
  exact wpAny_pure (hQ _ he')
end
/-- the tuple at a as it stands at each turn, each item in a new pair -/
def Iet (K : PySem.W.Frag) (a : Addr) : It :=
  ⟨fun i H => ∃ (xs : List V) (x : V), SqT K H a xs ∧ xs[i]? = some x, fun i H v H' => ∃ T x, v = .ref T ∧ H T = none ∧ H' = upd H T (.tup [.int (i : Nat), x]) ∧ ∀ xs, SqT K H a xs → xs[i]? = some x, fun i H => ∃ xs : List V, SqT K H a xs ∧ xs.length ≤ i⟩
theorem turn_enumT {P : Program} {w : World} {K : PySem.W.Frag} {elts : List Expr} {kk : Nat} {tpos : Pos} (a e it : Addr) :
    Turn P w K (.Tuple elts kk tpos) (Iet K a) [e, it] e (fun i h => (∃ old, IsEnum h e it ((i : Nat) : Int) old) ∧ h.IsTupleIter it a i ∧ e ≠ it) where
  mem := by simp
  obj := fun i h st b hb => by
    obtain ⟨⟨old, he⟩, ⟨o, ho, hc, hd⟩, _⟩ := st
    have e' : b = e ∨ b = it := by simpa using hb
    rcases e' with z | z
    · rw [z]
      exact ⟨_, he, fun v q => nomatch q⟩
    · rw [z]
      exact ⟨o, ho, fun v q => by rw [hd] at q; cases q⟩
  keep := fun i h h' st k => let ⟨⟨old, he⟩, hi, hne⟩ := st; ⟨⟨old, k e (by simp) _ he⟩, hi.at fun o q => k it (by simp) o q, hne⟩
  item := by
    intro X hP hw hK hc i pins s σ H E I hf st hg
    subst hP hw hK
    obtain ⟨⟨old, he⟩, hit, hne⟩ := st
    obtain ⟨xs, x, hq, hx⟩ := hg
    obtain ⟨its, rv, p, hz⟩ := I.tuple hq
    obtain ⟨u, hu, ru⟩ := rv.get hx
    have hel : e < s.heap.objs.size := Heap.lt_size he
    have hil : it < s.heap.objs.size := by
      obtain ⟨_, q, _⟩ := hit
      exact Heap.lt_size q
    have hlt : i < its.toArray.size := by
      have := (List.getElem?_eq_some_iff.mp hu).1
      simpa using this
    have hai : a ≠ it := by
      intro q
      obtain ⟨o, ho, hc', _⟩ := p
      obtain ⟨o2, ho2, hc2, _⟩ := hit
      rw [q, ho2] at ho
      cases ho
      rw [hc2] at hc'
      injection hc' with e1
      exact absurd e1 (by decide)
    have hae : a ≠ e := by
      intro q
      obtain ⟨o, ho, hc', _⟩ := p
      rw [q, he] at ho
      cases ho
      injection (show Value.type "enumerate" = Value.type "tuple" from hc') with e1
      exact absurd e1 (by decide)
    refine wpAny_pyNext_enum_itemD (Draws.tuple (A := X.A.in1) (show X.A.in1.handled = none from I.ok.hd hc) it a hai its.toArray) he ⟨hit, p⟩ hlt hne (by simp [hne, Ne.symm hae]) fun y h' tk hy ho hit' hT hsz hk => ?_
    have hyu : y = u := by
      have h1 : its.toArray[i]? = some u := by simpa using hu
      rw [h1] at hy
      exact (Option.some.inj hy).symm
    subst hyu
    refine ⟨_, rfl, wpAny_letOwnedTupleGo_enum (s := { s with heap := h', toks := tk + 1 }) ho fun h'' he' sb => ?_⟩
    have hT2 : h''.get? s.heap.objs.size = some { cls := .type "tuple", data := .seq #[.int i tk, y] } := (sb.2 _ (Nat.ne_of_gt hel)).trans hT
    have new : ObjOk X.prog X.w (upd H s.heap.objs.size (.tup [.int (i : Nat), x])) h'' s.heap.objs.size (.tup [.int (i : Nat), x]) :=
      ⟨by show 2 ≤ sizeLine; decide, [.int i tk, y], .cons ⟨_, rfl⟩ (.cons ru .nil), ⟨_, hT2, rfl, _, rfl⟩⟩
    have I1 : Inv X pins σ (upd H s.heap.objs.size (.tup [.int (i : Nat), x])) { s with heap := h'', toks := tk + 1 } :=
      I.turnedNew (ch := [e, it]) (fun b ob hb q => (sb.2 b (fun z => hb (by simp [z]))).trans (hk b ob (fun z => hb (by simp [z])) (fun z => hb (by simp [z])) q)) hf (Nat.le_refl _) new
    refine ⟨.ref s.heap.objs.size, _, I1, rfl, ⟨_, x, rfl, I.hok.fresh (Nat.le_refl _), rfl, fun ys hy => by rw [I.tuple_inj hy hq]; exact hx⟩, ⟨⟨y, ?_⟩, hit'.1.at fun o q => (sb.2 it (Ne.symm hne)).trans q, hne⟩, fun b hb => ?_⟩
    · have e1 : ((i + 1 : Nat) : Int) = (i : Int) + 1 := by omega
      rw [e1]
      exact he'
    · have hb' : b < s.heap.objs.size := by
        have e' : b = e ∨ b = it := by simpa using hb
        rcases e' with z | z
        · rw [z]
          exact hel
        · rw [z]
          exact hil
      rw [upd_ne (Nat.ne_of_lt hb')]
      exact (hf b hb).1
  done := by
    intro X hP hw hK hc i pins s σ H E I hf st hg
    subst hP hw hK
    obtain ⟨⟨old, he⟩, hit, hne⟩ := st
    obtain ⟨xs, hq, hx⟩ := hg
    obtain ⟨its, rv, p, hz⟩ := I.tuple hq
    obtain ⟨f0, f1, f2, f3, f4, f5⟩ := hf it (by simp)
    have hl := rv.length
    exact enumT_end (I.ok.hd hc) he hit p (by simp; omega) fun h' eb => ⟨rfl, I.turned (t' := s.toks) (fun b o hb q => eb b o hb q) f0 f1 f3 f4 f5⟩
  self := fun A i s Q E st h => let ⟨⟨_, he⟩, _⟩ := st; wpAny_pyIter_enum he h
def iEnumT (K : PySem.W.Frag) (ta : TA) : TI := fun σ H R => ta σ H fun vs H1 => ∃ a xs, vs = [.ref a] ∧ SqT K H1 a xs ∧ R (Iet K a) H1
theorem pi_enumT {X : Cx} {e : Expr} {ta : TA} {p pos tpos : Pos} {elts : List Expr} {kk : Nat} (hg : Gl X "enumerate") (hm : X.mg "enumerate" = none) (ha : PA X [e] ta) (hs : starEach [e] X.env = [(false, eval e X.env)] := by rfl) :
    PI X (.Tuple elts kk tpos) (.Call (.Name "enumerate" p) [e] [] pos) (iEnumT X.K ta) := by
  refine ⟨fun pins s σ H R I h => ?_⟩
  refine Call_ (ld_blt I hg hm boot_enumerate (PyProof.Rows.callWith_type1 (thn (ha.run pos pins s σ H _ I h) fun us s1 ⟨vs, H1, I1, r1, q1⟩ => ?_) hs rfl))
  obtain ⟨a, xs, ex, hq, q⟩ := q1
  subst ex
  cases r1 with
  | cons r rr =>
    cases rr
    cases r
    obtain ⟨its, rv, p', hz⟩ := I1.tuple hq
    refine call_enumT (show s1.heap.IsTuple a its.toArray from p') fun h' he hit hsz hk => wpAny_pyIter_enum he ?_
    have I2 : Inv X pins σ H1 { s1 with heap := h' } := I1.kept (t' := s1.toks) hk
    refine ⟨s1.heap.objs.size + 1, [s1.heap.objs.size + 1, s1.heap.objs.size], _, _, H1, rfl, I2, turn_enumT a (s1.heap.objs.size + 1) s1.heap.objs.size, ⟨⟨.none, he⟩, hit, Nat.succ_ne_self _⟩, fun b hb => ?_, q⟩
    have e' : b = s1.heap.objs.size + 1 ∨ b = s1.heap.objs.size := by simpa using hb
    have hle : s1.heap.objs.size ≤ b := by
      rcases e' with z | z
      · rw [z]
        exact Nat.le_add_right _ _
      · rw [z]
        exact Nat.le_refl _
    exact I1.fpOk hle (I1.hok.fresh hle)
theorem walk_enumT {K : PySem.W.Frag} {a : Addr} {xs : List V} : Walk (Iet K a) xs.length (fun H => SqT K H a xs) (YPair (fun i => some (.int (i : Nat))) (fun i => xs[i]?)) :=
  ⟨fun i H hi h => ⟨xs, xs[i], h, by simp [hi]⟩, fun H h => ⟨xs, h, Nat.le_refl _⟩, fun i H v H' hi h y => by
    obtain ⟨T, x, e, f, g, q⟩ := y
    exact ⟨T, .int (i : Nat), x, e, f, g, rfl, q xs h⟩⟩
end My

set_option Elab.async false
set_option maxRecDepth 100000
set_option maxHeartbeats 4000000
set_option linter.all false
/-! A def of the text and what it promises, by its name alone. -/
namespace My
open PySem PySem.Spec PyProof.Rows L2
/-- the def x of the text stands at its name, with parameters ps and no defaults -/
def Df (K : PySem.W.Frag) (mg : Str → Option Value) (x : Str) (st : Stmt) (ps : List Str) : Prop :=
  ∃ f fd, Fun K x x st f fd ∧ Binds K fd ps [] ∧ mg x = some (.ref f)
/-- the def that stands at the name x keeps the promise sp at level k -/
def Pr (P : Program) (w : World) (K : PySem.W.Frag) (mg : Str → Option Value) (base : Heap) (k : Nat) (x : Str) (ps : List Str) (sp : Sp) : Prop :=
  ∃ f fd, FnOk P w K mg base CX0 k f fd ps sp ∧ mg x = some (.ref f) ∧ PySem.W.keepIn K (.ref f) = true ∧ Binds K fd ps []
theorem pe_callP {X : Cx} {k : Nat} {x : Str} {ps : List Str} {sp : Sp} {e : Expr} {es : List Expr} {t : TA} {p pos : Pos}
    (h : Pr X.prog X.w X.K X.mg X.base k x ps sp) (hr : Room k X.A) (hg : Gl X x) (ha : PA X (e :: es) t)
    (hdb : (x == ("__debug__" : Str)) = false := by decide) (he : starEach (e :: es) X.env = (false, eval e X.env) :: starEach es X.env := by rfl) (hpl : (backTo pos (starEach es X.env)).any (·.1) = false := by rfl) :
    PE X (.Call (.Name x p) (e :: es) [] pos) (tCall sp [] E0 t) := by
  obtain ⟨f, fd, F, hm, hk, hb⟩ := h
  exact pe_call F hr hg hm hk hb .nil pass0 ha hdb he hpl
theorem Df.pr {P : Program} {w : World} {K : PySem.W.Frag} {mg : Str → Option Value} {base : Heap} {x : Str} {st : Stmt} {N ps : List Str} {k : Nat} {sp : Sp}
    (D : Df K mg x st ps) (S : FnScope N ps (defScope st)) (len : ∀ vs H Q E, sp vs H Q E → vs.length = ps.length)
    (hbody : ∀ (f : Addr) (cdv : Value) (A : Around) (outer : List Env) (s : Shared) (H : Hp) (vs : List V) (Q : VK) (E : XK), Room k (A.deeper (envOfC x (defScope st) s.heap.objs.size f cdv)) → sp vs H Q E →
      ∃ t, PSs (cxOf CX0 P w K mg base N x (defScope st) f cdv A outer s H E).nox (defBody st) t ∧ t { nx := fun _ H' => Q .non H', rt := Q } (start N vs) H) :
    Pr P w K mg base (k + 1) x ps sp := by
  obtain ⟨f, fd, F, b, g⟩ := D
  exact ⟨f, fd, F.ok S len (hbody f), g, F.kp, b⟩
/-- all but the object at p stays -/
def But (p : Addr) (H H' : Hp) : Prop := ∀ b o, H b = some o → b ≠ p → H' b = some o
theorem But.refl (p : Addr) (H : Hp) : But p H H := fun _ _ e _ => e
theorem But.trans {p : Addr} {H H1 H2 : Hp} (a : But p H H1) (b : But p H1 H2) : But p H H2 := fun x o e n => b x o (a x o e n) n
theorem But.upd {p : Addr} {H H1 : Hp} {o : HO} (a : But p H H1) : But p H (upd H1 p o) := fun x u e n => by
  rw [upd_ne n]
  exact a x u e n
theorem But.new {p q : Addr} {H H1 : Hp} {o : HO} (a : But p H H1) (h : H1 q = none) : But p H (L2.upd H1 q o) := fun x u e n => by
  rw [upd_ne (ne_of_none (a x u e n) h)]
  exact a x u e n
/-- the law's own drawing state at st: cells at c (the script's numbers), the rest open -/
def Drw (H : Hp) (st c : Addr) (ns : List Int) : Prop :=
  H c = some (.lst (ns.map V.int)) ∧ ∃ (n v : Int) (b : Bool), 0 ≤ n ∧ H st = some (.lst [.ref c, .int n, .int v, .bl b])
theorem Drw.ne {H : Hp} {st c : Addr} {ns : List Int} (h : Drw H st c ns) : c ≠ st := by
  obtain ⟨hc, n, v, b, _, hs⟩ := h
  refine ne_of hc hs fun e => ?_
  injection e with e
  cases ns with
  | nil => cases e
  | cons a r =>
    injection e with e1 _
    cases e1
theorem Drw.put {H : Hp} {st c : Addr} {ns : List Int} (h : Drw H st c ns) {n v : Int} {b : Bool} (h0 : 0 ≤ n) : Drw (L2.upd H st (.lst [.ref c, .int n, .int v, .bl b])) st c ns :=
  ⟨by rw [upd_ne h.ne]; exact h.1, n, v, b, h0, upd_same⟩
theorem Drw.new {H : Hp} {st c q : Addr} {ns : List Int} {o : HO} (h : Drw H st c ns) (hq : H q = none) : Drw (L2.upd H q o) st c ns := by
  obtain ⟨hc, n, v, b, h0, hs⟩ := h
  exact ⟨by rw [upd_ne (ne_of_none hc hq)]; exact hc, n, v, b, h0, by rw [upd_ne (ne_of_none hs hq)]; exact hs⟩
theorem Drw.but {H H' : Hp} {st c : Addr} {ns : List Int} (h : Drw H st c ns) {n v : Int} {b : Bool} (h0 : 0 ≤ n) (hb : But st H H') (hs : H' st = some (.lst [.ref c, .int n, .int v, .bl b])) : Drw H' st c ns :=
  ⟨hb _ _ h.1 h.ne, n, v, b, h0, hs⟩
/-- a test whose both answers leave the heap as it is -/
theorem tt_any {c : TT} {σ : L2.St} {H : Hp} {K : Bool → Hp → Prop} (h : ∀ K' : Bool → Hp → Prop, K' true H → K' false H → c σ H K') (hT : K true H) (hF : K false H) : c σ H K := h K hT hF
theorem ite3 {c : Prop} [Decidable c] {K : Bool → Hp → Prop} {H : Hp} (a : c → K true H) (b : ¬ c → K false H) : K (decide c) H := by
  by_cases h : c
  · rw [decide_eq_true h]
    exact a h
  · rw [decide_eq_false h]
    exact b h
end My

set_option Elab.async false
set_option maxRecDepth 100000
set_option maxHeartbeats 4000000
set_option linter.all false
/-! Data that stands in the heap, apart from one object m that may change. -/
namespace My
open PySem PySem.Spec PyProof.Rows L2
mutual
inductive At (m : Addr) (H : Hp) : V → PyData → Prop
  | non : At m H .non .none
  | bl (b : Bool) : At m H (.bl b) (.bool b)
  | int (i : Int) : At m H (.int i) (.int i)
  | str (x : Str) : At m H (.str x) (.str x)
  | lst {a : Addr} {xs : List V} {ds : List PyData} : a ≠ m → H a = some (.lst xs) → AtAll m H xs ds → At m H (.ref a) (.list ds)
  | tup {a : Addr} {xs : List V} {ds : List PyData} : a ≠ m → H a = some (.tup xs) → AtAll m H xs ds → At m H (.ref a) (.tuple ds)
inductive AtAll (m : Addr) (H : Hp) : List V → List PyData → Prop
  | nil : AtAll m H [] []
  | cons {v : V} {vs : List V} {d : PyData} {ds : List PyData} : At m H v d → AtAll m H vs ds → AtAll m H (v :: vs) (d :: ds)
end
mutual
theorem At.mono {m : Addr} {H H' : Hp} (b : But m H H') : ∀ {v : V} {d : PyData}, At m H v d → At m H' v d
  | _, _, .non => .non
  | _, _, .bl k => .bl k
  | _, _, .int i => .int i
  | _, _, .str x => .str x
  | _, _, .lst n h q => .lst n (b _ _ h n) (AtAll.mono b q)
  | _, _, .tup n h q => .tup n (b _ _ h n) (AtAll.mono b q)
theorem AtAll.mono {m : Addr} {H H' : Hp} (b : But m H H') : ∀ {vs : List V} {ds : List PyData}, AtAll m H vs ds → AtAll m H' vs ds
  | _, _, .nil => .nil
  | _, _, .cons h q => .cons (At.mono b h) (AtAll.mono b q)
end
mutual
theorem At.dp {K : PySem.W.Frag} {m : Addr} {H : Hp} : ∀ {v : V} {d : PyData}, At m H v d → Dp K H v d
  | _, _, .non => .non
  | _, _, .bl k => .bl k
  | _, _, .int i => .int i
  | _, _, .str x => .str x
  | _, _, .lst n h q => .lst (SqL.of h) (AtAll.dp q)
  | _, _, .tup n h q => .tup (SqT.of h) (AtAll.dp q)
theorem AtAll.dp {K : PySem.W.Frag} {m : Addr} {H : Hp} : ∀ {vs : List V} {ds : List PyData}, AtAll m H vs ds → DpAll K H vs ds
  | _, _, .nil => .nil
  | _, _, .cons h q => .cons (At.dp h) (AtAll.dp q)
end
theorem Same.but {m : Addr} {H H' : Hp} (s : Same H H') : But m H H' := fun b o e _ => s b o e
theorem AtAll.length {m : Addr} {H : Hp} : ∀ {vs : List V} {ds : List PyData}, AtAll m H vs ds → vs.length = ds.length
  | _, _, .nil => rfl
  | _, _, .cons _ q => by rw [List.length_cons, List.length_cons, AtAll.length q]
theorem AtAll.get {m : Addr} {H : Hp} : ∀ {vs : List V} {ds : List PyData} {i : Nat} {v : V}, AtAll m H vs ds → vs[i]? = some v → ∃ d, ds[i]? = some d ∧ At m H v d
  | _, _, _, _, .nil, e => by simp at e
  | _, _, 0, _, .cons h _, e => by
    simp at e
    subst e
    exact ⟨_, rfl, h⟩
  | _, _, i + 1, v, .cons _ q, e => by
    obtain ⟨d, h1, h2⟩ := AtAll.get (i := i) (v := v) q (by simpa using e)
    exact ⟨d, by simpa using h1, h2⟩
theorem AtAll.append {m : Addr} {H : Hp} {v : V} {d : PyData} : ∀ {vs : List V} {ds : List PyData}, AtAll m H vs ds → At m H v d → AtAll m H (vs ++ [v]) (ds ++ [d])
  | _, _, .nil, h => .cons h .nil
  | _, _, .cons h q, e => .cons h (AtAll.append q e)
theorem AtAll.bools {m : Addr} {H : Hp} : ∀ (bs : List Bool), AtAll m H (bs.map V.bl) (bs.map PyData.bool)
  | [] => .nil
  | b :: r => .cons (.bl b) (AtAll.bools r)
theorem AtAll.mem {m : Addr} {H : Hp} {vs : List V} {ds : List PyData} {v : V} (h : AtAll m H vs ds) (hv : v ∈ vs) : ∃ d, d ∈ ds ∧ At m H v d := by
  obtain ⟨i, hi, e⟩ := List.getElem_of_mem hv
  obtain ⟨d, h1, h2⟩ := h.get (i := i) (v := v) (by rw [List.getElem?_eq_getElem hi, e])
  exact ⟨d, List.mem_of_getElem? h1, h2⟩
/-- what type(x) is called -/
def tyS : PyData → String
  | .none => "NoneType" | .bool _ => "bool" | .int _ => "int" | .str _ => "str" | .list _ => "list" | .tuple _ => "tuple" | .dict _ => "dict"
theorem At.ty {K : PySem.W.Frag} {m : Addr} {H : Hp} {v : V} {d : PyData} (h : At m H v d) : TyX K H v (.type (tyS d)) := by
  cases h with
  | non => exact .base .non
  | bl b => exact .base (.bl b)
  | int i => exact .base (.int i)
  | str x => exact .base (.str x)
  | lst n e q => exact .base (.lst e)
  | tup n e q => exact .base (.tup e)
/-- nested at most n deep -/
inductive Lev : Nat → PyData → Prop
  | non (n : Nat) : Lev n .none
  | bl (n : Nat) (b : Bool) : Lev n (.bool b)
  | int (n : Nat) (i : Int) : Lev n (.int i)
  | str (n : Nat) (x : Str) : Lev n (.str x)
  | lst {n : Nat} {ds : List PyData} : ds.length ≤ 5000000 → (∀ x, x ∈ ds → Lev n x) → Lev (n + 1) (.list ds)
  | tup {n : Nat} {ds : List PyData} : ds.length ≤ 5000000 → (∀ x, x ∈ ds → Lev n x) → Lev (n + 1) (.tuple ds)
theorem walk_zipT {K : PySem.W.Frag} {a b : Addr} {xs ys : List V} (hn : xs.length = ys.length) : Walk (RZ.ItzT K a b) xs.length (fun H => SqT K H a xs ∧ SqT K H b ys) (YPair (fun i => xs[i]?) (fun i => ys[i]?)) :=
  ⟨fun i H hi h => ⟨xs, ys, xs[i], ys[i]'(by omega), h.1, h.2, by simp [hi], by simp [show i < ys.length by omega]⟩, fun H h => ⟨xs, ys, h.1, h.2, .inl (Nat.le_refl _)⟩, fun i H v H' hi h y => by
    obtain ⟨T, x, y, e, f, g, q, r⟩ := y
    exact ⟨T, x, y, e, f, g, q xs h.1, r ys h.2⟩⟩
theorem walk_zipL {K : PySem.W.Frag} {a b : Addr} {xs ys : List V} (hn : xs.length = ys.length) : Walk (Itz K a b) xs.length (fun H => SqL K H a xs ∧ SqL K H b ys) (YPair (fun i => xs[i]?) (fun i => ys[i]?)) :=
  ⟨fun i H hi h => ⟨xs, ys, xs[i], ys[i]'(by omega), h.1, h.2, by simp [hi], by simp [show i < ys.length by omega]⟩, fun H h => ⟨xs, ys, h.1, h.2, .inl (Nat.le_refl _)⟩, fun i H v H' hi h y => by
    obtain ⟨T, x, y, e, f, g, q, r⟩ := y
    exact ⟨T, x, y, e, f, g, q xs h.1, r ys h.2⟩⟩
/-- what _law_same promises: two things that are the same data are told so -/
def spSame (n : Nat) : Sp := fun vs H Q _ => ∃ (m : Addr) (x y : V) (d : PyData) (o : HO), vs = [x, y] ∧ H m = some o ∧ At m H x d ∧ At m H y d ∧ Lev n d ∧ ∀ H', Same H H' → Q (.bl true) H'
theorem But.sqL {K : PySem.W.Frag} {p a : Addr} {H H' : Hp} {xs : List V} (b : But p H H') (n : a ≠ p) (h : SqL K H a xs) : SqL K H' a xs := by
  rcases h with h | h
  · rcases h with h | ⟨o, h⟩
    · exact .inl (.inl (b _ _ h n))
    · exact .inl (.inr ⟨o, b _ _ h n⟩)
  · exact .inr h
theorem But.sqT {K : PySem.W.Frag} {p a : Addr} {H H' : Hp} {xs : List V} (b : But p H H') (n : a ≠ p) (h : SqT K H a xs) : SqT K H' a xs := by
  rcases h with h | h
  · rcases h with h | ⟨o, h⟩
    · exact .inl (.inl (b _ _ h n))
    · exact .inl (.inr ⟨o, b _ _ h n⟩)
  · exact .inr h
def kitAnyB (a : String) : List String → Option Bool
  | [] => some false
  | c :: cs => match kitB a c with
    | some true => some true
    | some false => kitAnyB a cs
    | none => none
theorem kit_any {K : PySem.W.Frag} {a : String} : ∀ {cs : List String} {b : Bool}, kitAnyB a cs = some b → PySem.W.kitAny K (.type a) (cs.map Value.type) = some b
  | [], b, h => by
    cases h
    exact kitAny_nil
  | c :: cs, b, h => by
    unfold kitAnyB at h
    cases e : kitB a c with
    | none =>
      rw [e] at h
      cases h
    | some r =>
      rw [e] at h
      cases r with
      | true =>
        cases h
        exact kitAny_cons (kit_ty e) (fun z => by cases z) (fun _ => rfl)
      | false => exact kitAny_cons (kit_ty e) (fun _ => kit_any h) (fun z => by cases z)
theorem cls_all : ∀ (cs : List String), Paired ClsV (cs.map V.ty) (cs.map Value.type)
  | [] => .nil
  | c :: cs => .cons (.ty c) (cls_all cs)
theorem k_NoneType_list : kitB "NoneType" "list" = some false := by decide +kernel
theorem k_NoneType_tuple : kitB "NoneType" "tuple" = some false := by decide +kernel
theorem k_NoneType_int : kitB "NoneType" "int" = some false := by decide +kernel
theorem k_NoneType_bool : kitB "NoneType" "bool" = some false := by decide +kernel
theorem k_NoneType_str : kitB "NoneType" "str" = some false := by decide +kernel
theorem k_NoneType_lt : kitAnyB "NoneType" ["list", "tuple"] = some false := by decide +kernel
theorem k_NoneType_bilt : kitAnyB "NoneType" ["bool", "int", "list", "tuple"] = some false := by decide +kernel
theorem k_bool_list : kitB "bool" "list" = some false := by decide +kernel
theorem k_bool_tuple : kitB "bool" "tuple" = some false := by decide +kernel
theorem k_bool_int : kitB "bool" "int" = some true := by decide +kernel
theorem k_bool_bool : kitB "bool" "bool" = some true := by decide +kernel
theorem k_bool_str : kitB "bool" "str" = some false := by decide +kernel
theorem k_bool_lt : kitAnyB "bool" ["list", "tuple"] = some false := by decide +kernel
theorem k_bool_bilt : kitAnyB "bool" ["bool", "int", "list", "tuple"] = some true := by decide +kernel
theorem k_int_list : kitB "int" "list" = some false := by decide +kernel
theorem k_int_tuple : kitB "int" "tuple" = some false := by decide +kernel
theorem k_int_int : kitB "int" "int" = some true := by decide +kernel
theorem k_int_bool : kitB "int" "bool" = some false := by decide +kernel
theorem k_int_str : kitB "int" "str" = some false := by decide +kernel
theorem k_int_lt : kitAnyB "int" ["list", "tuple"] = some false := by decide +kernel
theorem k_int_bilt : kitAnyB "int" ["bool", "int", "list", "tuple"] = some true := by decide +kernel
theorem k_str_list : kitB "str" "list" = some false := by decide +kernel
theorem k_str_tuple : kitB "str" "tuple" = some false := by decide +kernel
theorem k_str_int : kitB "str" "int" = some false := by decide +kernel
theorem k_str_bool : kitB "str" "bool" = some false := by decide +kernel
theorem k_str_str : kitB "str" "str" = some true := by decide +kernel
theorem k_str_lt : kitAnyB "str" ["list", "tuple"] = some false := by decide +kernel
theorem k_str_bilt : kitAnyB "str" ["bool", "int", "list", "tuple"] = some false := by decide +kernel
theorem k_list_list : kitB "list" "list" = some true := by decide +kernel
theorem k_list_tuple : kitB "list" "tuple" = some false := by decide +kernel
theorem k_list_int : kitB "list" "int" = some false := by decide +kernel
theorem k_list_bool : kitB "list" "bool" = some false := by decide +kernel
theorem k_list_str : kitB "list" "str" = some false := by decide +kernel
theorem k_list_lt : kitAnyB "list" ["list", "tuple"] = some true := by decide +kernel
theorem k_list_bilt : kitAnyB "list" ["bool", "int", "list", "tuple"] = some true := by decide +kernel
theorem k_tuple_list : kitB "tuple" "list" = some false := by decide +kernel
theorem k_tuple_tuple : kitB "tuple" "tuple" = some true := by decide +kernel
theorem k_tuple_int : kitB "tuple" "int" = some false := by decide +kernel
theorem k_tuple_bool : kitB "tuple" "bool" = some false := by decide +kernel
theorem k_tuple_str : kitB "tuple" "str" = some false := by decide +kernel
theorem k_tuple_lt : kitAnyB "tuple" ["list", "tuple"] = some true := by decide +kernel
theorem k_tuple_bilt : kitAnyB "tuple" ["bool", "int", "list", "tuple"] = some true := by decide +kernel
/-- isinstance(x, C) of data, as the reading asks it -/
theorem isi_of {K : PySem.W.Frag} {m : Addr} {H : Hp} {v : V} {d : PyData} {c : String} {b : Bool} {Q : VK} (h : At m H v d) (k : kitB (tyS d) c = some b) (q : Q (.bl b) H) : rIsi K [v, .ty c] H Q :=
  ⟨_, _, _, _, b, rfl, .ty c, h.ty, kit_ty k, q⟩
theorem isiT_of {K : PySem.W.Frag} {m tp : Addr} {H : Hp} {v : V} {d : PyData} {cs : List String} {b : Bool} {Q : VK} (h : At m H v d) (ht : H tp = some (.tup (cs.map V.ty))) (k : kitAnyB (tyS d) cs = some b) (q : Q (.bl b) H) : rIsiT K [v, .ref tp] H Q :=
  ⟨_, _, _, _, _, b, rfl, ht, cls_all cs, h.ty, kit_any k, q⟩
theorem small6 {n : Nat} (h : n < 8000000) : n < sizeLine := Nat.lt_trans h (by decide)
/-- an if whose test leaves the heap as it is, both ways to be shown -/
theorem if_any {c : TT} {t u : TS} {D : Ends} {σ : L2.St} {H : Hp} (h : ∀ K' : Bool → Hp → Prop, K' true H → K' false H → c σ H K') (hT : t D σ H) (hF : u D σ H) : tIfS c t u D σ H := h _ (iteT hT) (iteF hF)
theorem seq_if_any {c : TT} {t u r : TS} {D : Ends} {σ : L2.St} {H : Hp} (h : ∀ K' : Bool → Hp → Prop, K' true H → K' false H → c σ H K') (hT : t { D with nx := r D } σ H) (hF : u { D with nx := r D } σ H) : tSeq (tIfS c t u) r D σ H := h _ (iteT hT) (iteF hF)
theorem by_bool {K' : Bool → Hp → Prop} {H : Hp} (a : K' true H) (b : K' false H) : ∀ c, K' c H
  | true => a
  | false => b
end My

set_option Elab.async false
set_option maxRecDepth 100000
set_option maxHeartbeats 4000000
set_option linter.all false
namespace C79
open PySem L2 My
def top (i : Nat) : Stmt := PySem.Challenge.pw_cursorhouse_k79_scripts_refused.main.body.getD i (.Pass ⟨0, 0, 0, 0⟩)
abbrev sFresh : Stmt := top 39
abbrev sFill : Stmt := top 40
abbrev sTake : Stmt := top 41
abbrev sOne : Stmt := top 42
structure Tx (mg : Str → Option Value) : Prop where
  len : mg "len" = none
  int : mg "int" = none
  enumerate : mg "enumerate" = none
def spFill : Sp := fun vs H Q _ => ∃ (st c : Addr) (ns : List Int), vs = [.ref st] ∧ Drw H st c ns ∧ ns.length ≤ 63 ∧
  ∀ H', Drw H' st c ns → But st H H' → Q .non H'
section
variable {P : Program} {w : World} {K : PySem.W.Frag} {mg : Str → Option Value} {base : Heap}
theorem scFill : FnScope ["_law_state", "_law_cells", "_law_nth", "_law_seed", "_law_k", "_law_prime", "_law_far"] ["_law_state"] (defScope sFill) := ⟨rfl, rfl, rfl, by decide +kernel, rfl, by decide +kernel, by decide +kernel⟩
theorem pr_fill (D : Df K mg "_law_fill" sFill ["_law_state"]) (T : Tx mg) : Pr P w K mg base 1 "_law_fill" ["_law_state"] spFill := by
  refine D.pr scFill (fun vs H Q E h => ?_) (fun f cdv A outer s H vs Q E hr h => ?_)
  · obtain ⟨p, c, ns, rfl, _⟩ := h
    rfl
  · obtain ⟨st, c, ns, rfl, dr, hn, k⟩ := h
    have nd := scFill.nd
    have hne := dr.ne
    obtain ⟨hc, n, v, b, n0, hs⟩ := id dr
    refine ⟨_, (pss_cons (ps_par (by rfl) nd (i := 1) (j := 2) rfl rfl (by decide) rfl rfl (pa_cons (pe_ix ix_list (pv 0) pe_int (fun _ _ => rfl)) (pa_cons (pe_ix ix_list (pv 0) pe_int (fun _ _ => rfl)) pa_nil)) (by rfl))
      (pss_cons (ps_asg (pe_op op_add (pe_op op_mul pe_int (pv 2)) pe_int) (pg_name (i := 3) nd rfl (Or.inl rfl)))
      (Evl.pss_cut (ps_if (pt_cmpR op_gt (pe_callB call_len (by rfl) T.len PySem.boot_len (pa_cons (pv 1) pa_nil)) pe_int (nomark _))
        (pss_one (ps_asg (pe_op op_add (pe_op op_mul pe_int (pe_op op_fdivN (pv 2) (pe_callB call_len (by rfl) T.len PySem.boot_len (pa_cons (pv 1) pa_nil)))) (pe_ix ix_list (pv 1) (pe_op op_modN (pe_callTy call_int1 (by rfl) T.int (by decide +kernel) (pa_cons (pv 2) pa_nil)) (pe_callB call_len (by rfl) T.len PySem.boot_len (pa_cons (pv 1) pa_nil))) (fun _ _ => rfl))) (pg_name (i := 3) nd rfl (Or.inl rfl))))
        pss_nil)
      (pss_cons (ps_asg (pe_op op_add (pv 2) pe_int) (pg_sub (pv 0) pe_int set_list))
      (Evl.pss_cut (ps_asg (pe_or (pe_cmpR op_ge (pv 2) (pe_callB call_len (by rfl) T.len PySem.boot_len (pa_cons (pv 1) pa_nil)) (nomark _)) (pe_one (pe_cmpR op_lt (pv 3) (pe_op op_pow pe_int pe_int) (nomark _)))) (pg_sub (pv 0) pe_int set_list))
      (pss_cons (ps_asg (pe_op op_sub (pv 3) (pe_op op_pow pe_int pe_int)) (pg_sub (pv 0) pe_int set_list))
      (pss_one (ps_if (pt_val (pe_ix ix_list (pv 0) pe_int (fun _ _ => rfl)))
        (pss_cons (ps_asg pe_int (pg_sub (pv 0) pe_int set_list))
        (pss_one (ps_for PassesOwn.never rfl (pi_enumT (by rfl) T.enumerate (pa_cons (pe_tup (pa_cons pe_int (pa_cons pe_int (pa_cons pe_int (pa_cons pe_int (pa_cons pe_int pa_nil)))))) pa_nil)) (pg_tup rfl (pgs_cons (pg_name (i := 4) nd rfl (Or.inl rfl)) (pgs_cons (pg_name (i := 5) nd rfl (Or.inl rfl)) pgs_nil)))
          (pss_cons (ps_asg (pe_op op_modN (pe_callTy call_int1 (by rfl) T.int (by decide +kernel) (pa_cons (pe_op op_mul (pe_op op_add (pe_op op_add (pv 3) (pe_op op_mul (pe_op op_mul pe_int (pv 4)) (pv 4))) (pe_op op_mul pe_int (pv 4))) (pe_op op_add pe_int (pe_op op_mul pe_int (pv 4)))) pa_nil)) (pv 5)) (pg_name (i := 6) nd rfl (Or.inl rfl)))
          (pss_one (ps_asg (pe_op op_add (pe_op op_mul (pe_ix ix_list (pv 0) pe_int (fun _ _ => rfl)) (pv 5)) (pe_op op_modN (pe_callTy call_int1 (by rfl) T.int (by decide +kernel) (pa_cons (pe_op op_pow (pv 6) pe_int) pa_nil)) (pv 5))) (pg_sub (pv 0) pe_int set_list)))))))
        pss_nil)))))))), ?_⟩
    refine ⟨_, rfl, _, _, _, _, rfl, rfl, SqL.of hs, rfl, _, rfl, _, _, _, _, rfl, rfl, SqL.of hs, rfl, _, _, rfl, ?_⟩
    refine ⟨_, rfl, _, _, rfl, rfl, .inl ⟨by decide, by decide⟩, _, _, rfl, rfl, ?_⟩
    refine ⟨fun σ' H' => H' = H ∧ ∃ z : Int, σ' = [some (.ref st), some (.ref c), some (.int n), some (.int z), none, none, none], ?_, ?_⟩
    · refine ⟨_, rfl, _, _, rfl, .inl ⟨_, SqL.of hc, rfl⟩, _, _, rfl, rfl, _, rfl, ?_⟩
      refine ite2 (fun h0 => ?_) (fun _ => ⟨rfl, _, rfl⟩)
      have hl0 : (0 : Int) < ((ns.map V.int).length : Int) := of_decide_eq_true h0
      have hlen : (ns.map V.int).length = ns.length := List.length_map ..
      have hm0 : 0 ≤ n.fmod ((ns.map V.int).length : Int) := Int.fmod_nonneg_of_pos n hl0
      have hm1 : n.fmod ((ns.map V.int).length : Int) < ((ns.map V.int).length : Int) := Int.fmod_lt_of_pos n hl0
      obtain ⟨j, hj⟩ := Int.eq_ofNat_of_zero_le hm0
      have hjl : j < ns.length := by omega
      refine ⟨_, rfl, _, rfl, _, _, rfl, .inl ⟨_, SqL.of hc, rfl⟩, _, _, rfl, rfl, ⟨by omega, by omega⟩, _, _, rfl, rfl, .inl ⟨by decide, by decide⟩, ?_⟩
      refine ⟨_, rfl, _, rfl, .inl ⟨_, rfl, ?_⟩⟩
      refine ⟨_, rfl, _, _, rfl, .inl ⟨_, SqL.of hc, rfl⟩, _, _, rfl, rfl, by omega, ?_⟩
      refine ⟨_, _, _, .int ns[j], rfl, rfl, SqL.of hc, ?_, _, _, rfl, rfl, rfl, _, rfl⟩
      rw [hj]
      exact atI_nat (by simp [hjl])
    · rintro σ' H' ⟨rfl, z, rfl⟩
      -- state[1] = nth + 1; state[3] = ..
      refine ⟨_, rfl, _, _, rfl, rfl, _, rfl, _, _, _, _, rfl, rfl, hs, rfl, ?_⟩
      refine ⟨fun σ' H1 => σ' = [some (.ref st), some (.ref c), some (.int n), some (.int z), none, none, none] ∧ ∃ b2, H1 = upd H' st (.lst [.ref c, .int (n + 1), .int v, .bl b2]), ?_, ?_⟩
      · refine ⟨_, rfl, _, rfl, _, _, rfl, .inl ⟨_, SqL.of (Eq.trans (upd_ne hne) hc), rfl⟩, _, _, rfl, rfl, _, rfl, ?_⟩
        refine ite2 (fun h0 => ?_) (fun _ => ?_)
        · exact ⟨_, rfl, _, _, _, _, rfl, rfl, upd_same, rfl, rfl, _, upd_upd⟩
        · refine ⟨_, rfl, _, _, rfl, rfl, ⟨by decide, by decide, by decide⟩, _, _, rfl, rfl, ?_⟩
          exact ⟨_, rfl, _, _, _, _, rfl, rfl, upd_same, rfl, rfl, _, upd_upd⟩
      · rintro σ' H1 ⟨rfl, b2, rfl⟩
        refine ⟨_, rfl, _, _, rfl, rfl, ⟨by decide, by decide, by decide⟩, _, _, rfl, rfl, _, rfl, _, _, _, _, rfl, rfl, upd_same, rfl, ?_⟩
        rw [upd_upd]
        refine ⟨_, rfl, _, _, _, _, rfl, rfl, SqL.of upd_same, rfl, _, rfl, ?_⟩
        refine ite2 (fun h0 => ?_) (fun _ => ?_)
        · refine ⟨_, rfl, _, _, _, _, rfl, rfl, upd_same, rfl, ?_⟩
          rw [upd_upd]
          refine ⟨by decide, fun tp htp => ⟨_, _, rfl, SqT.of upd_same, ?_⟩⟩
          have dr2 := (dr.put (n := n + 1) (v := 0) (b := b2) (by omega)).new (o := .tup [.int 2147483647, .int 2147483629, .int 2147483587, .int 2147483579, .int 2147483563]) htp
          refine for_it (walk_enumT (xs := [.int 2147483647, .int 2147483629, .int 2147483587, .int 2147483579, .int 2147483563])) (fun i σ H2 => (∃ o4 o5 o6, σ = [some (.ref st), some (.ref c), some (.int n), some (.int z), o4, o5, o6]) ∧ Drw H2 st c ns ∧ But st H' H2 ∧ H2 tp = some (.tup [.int 2147483647, .int 2147483629, .int 2147483587, .int 2147483579, .int 2147483563]))
            ⟨⟨_, _, _, rfl⟩, dr2, (But.refl _ _).upd.new htp, upd_same⟩ (fun i σ H2 _ q => SqT.of q.2.2.2) ?_ ?_
          · rintro i x σ H2 H3 hi ⟨⟨o4, o5, o6, rfl⟩, d2, b2', ht⟩ ⟨T2, i', pr, rfl, hT2, rfl, ei, ep⟩
            obtain rfl : V.int (i : Nat) = i' := Option.some.inj ei
            have hi5 : i < 5 := hi
            obtain ⟨q, rfl, q0, q1⟩ : ∃ q : Int, pr = .int q ∧ 0 < q ∧ q < 4294967296 := by
              have hh : i = 0 ∨ i = 1 ∨ i = 2 ∨ i = 3 ∨ i = 4 := by omega
              rcases hh with rfl | rfl | rfl | rfl | rfl <;> exact ⟨_, (Option.some.inj ep).symm, by decide, by decide⟩
            have d3 := d2.new (o := .tup [.int (i : Nat), .int q]) hT2
            obtain ⟨hc3, n3, v3, b3, n30, hs3⟩ := id d3
            have hst : st ≠ tp := ne_of d2.2.choose_spec.choose_spec.choose_spec.2 ht (by intro z; cases z)
            refine ⟨_, _, rfl, SqT.of upd_same, rfl, _, _, rfl, _, _, rfl, rfl, ?_⟩
            have mI : (-18446744073709551616 : Int) < (i : Int) ∧ (i : Int) < 18446744073709551616 := ⟨by omega, by omega⟩
            refine ⟨_, rfl, _, rfl, _, _, rfl, rfl, .inr mI, _, rfl, _, _, rfl, rfl, .inr mI, _, _, rfl, rfl, _, rfl, _, _, rfl, rfl, .inr mI, _, _, rfl, rfl, _, rfl, _, _, rfl, rfl, .inr mI, _, _, rfl, rfl, _, _, rfl, rfl, .inr ⟨by omega, by omega⟩, .inl ⟨_, rfl, ?_⟩⟩
            refine ⟨_, rfl, _, _, rfl, rfl, by omega, ?_⟩
            have pB : ∀ x : Int, (x.fmod q).natAbs < 2 ^ 64 := fun x => by
              have f0 := Int.fmod_nonneg_of_pos x q0
              have f1 := Int.fmod_lt_of_pos x q0
              omega
            refine ⟨_, rfl, _, _, _, _, rfl, rfl, SqL.of hs3, rfl, _, rfl, _, _, rfl, rfl, .inr ⟨by omega, by omega⟩, _, rfl, _, _, rfl, rfl, ⟨by decide, by decide, pB _⟩, .inl ⟨_, rfl, ?_⟩⟩
            refine ⟨_, rfl, _, _, rfl, rfl, by omega, _, _, rfl, rfl, _, rfl, _, _, _, _, rfl, rfl, hs3, rfl, ?_⟩
            exact ⟨⟨_, _, _, rfl⟩, d3.put n30, (b2'.new hT2).upd, by rw [upd_ne hst.symm, upd_ne (ne_of_none ht hT2)]; exact ht⟩
          · rintro σ H2 ⟨⟨o4, o5, o6, rfl⟩, d2, b2', ht⟩
            exact k _ d2 b2'
        · exact k _ (dr.put (by omega)) (But.refl _ _).upd
def spTake : Sp := fun vs H Q _ => ∃ (st c : Addr) (ns : List Int) (m : Int), vs = [.ref st, .int m] ∧ Drw H st c ns ∧ ns.length ≤ 63 ∧ 0 < m ∧ m ≤ 10000 ∧
  ∀ (d : Int) (H' : Hp), 0 ≤ d → d < m → Drw H' st c ns → But st H H' → Q (.int d) H'
theorem scTake : FnScope ["_law_state", "_law_many", "_law_turns", "_law_digit"] ["_law_state", "_law_many"] (defScope sTake) := ⟨rfl, rfl, rfl, by decide +kernel, rfl, by decide +kernel, by decide +kernel⟩
theorem pr_take (D : Df K mg "_law_take" sTake ["_law_state", "_law_many"]) (T : Tx mg) (PF : Pr P w K mg base 1 "_law_fill" ["_law_state"] spFill) : Pr P w K mg base 2 "_law_take" ["_law_state", "_law_many"] spTake := by
  refine D.pr scTake (fun vs H Q E h => ?_) (fun f cdv A outer s H vs Q E hr h => ?_)
  · obtain ⟨p, c, ns, m, rfl, _⟩ := h
    rfl
  · obtain ⟨st, c, ns, m, rfl, dr, hn, m0, m1, k⟩ := h
    have nd := scTake.nd
    refine ⟨_, (pss_cons (ps_asg pe_int (pg_name (i := 2) nd rfl (Or.inl rfl)))
      (Evl.pss_cut (ps_while PassesOwn.never (PW.pt (pw_and (pt_cmpR op_lt (pv 2) pe_int (nomark _)) (pw_and1 (PW.pt (pw_or (pt_cmpR op_eq (pe_ix ix_list (pv 0) pe_int (fun _ _ => rfl)) pe_int (nomark _)) (pw_or1 (PW.pt (pw_and (pt_val (pe_ix ix_list (pv 0) pe_int (fun _ _ => rfl))) (pw_and1 (pt_cmpR op_lt (pe_ix ix_list (pv 0) pe_int (fun _ _ => rfl)) (pe_op op_mul (pv 1) pe_int) (nomark _)))))))))))
        (pss_cons (ps_expr (pe_callP PF hr (by rfl) (pa_cons (pv 0) pa_nil)))
        (pss_cons (ps_aug (i := 2) nd rfl (Or.inl rfl) pe_int ip_add)
        (pss_one (ps_if (PW.pt (pw_and (pt_val (pe_ix ix_list (pv 0) pe_int (fun _ _ => rfl))) (pw_and1 (pt_cmpR op_lt (pe_ix ix_list (pv 0) pe_int (fun _ _ => rfl)) (pe_op op_mul (pv 1) pe_int) (nomark _)))))
          (pss_one (ps_asg (pe_op op_add (pe_ix ix_list (pv 0) pe_int (fun _ _ => rfl)) (pe_op op_mul (pe_op op_mul (pv 1) pe_int) (pe_op op_add pe_int (pe_op op_modN (pe_callTy call_int1 (by rfl) T.int (by decide +kernel) (pa_cons (pe_ix ix_list (pv 0) pe_int (fun _ _ => rfl)) pa_nil)) pe_int)))) (pg_sub (pv 0) pe_int set_list)))
          pss_nil)))))
      (pss_cons (ps_asg (pe_op op_modN (pe_callTy call_int1 (by rfl) T.int (by decide +kernel) (pa_cons (pe_ix ix_list (pv 0) pe_int (fun _ _ => rfl)) pa_nil)) (pv 1)) (pg_name (i := 3) nd rfl (Or.inl rfl)))
      (pss_cons (ps_asg (pe_op op_fdivN (pe_ix ix_list (pv 0) pe_int (fun _ _ => rfl)) (pv 1)) (pg_sub (pv 0) pe_int set_list))
      (pss_one (ps_ret (pv 3))))))), ?_⟩
    refine ⟨fun σ' H1 => ∃ (t : Int) (o3 : Option V), σ' = [some (.ref st), some (.int m), some (.int t), o3] ∧ Drw H1 st c ns ∧ But st H H1, ?_, ?_⟩
    · refine ⟨fun j σ H1 => ∃ (t : Int) (o3 : Option V), σ = [some (.ref st), some (.int m), some (.int t), o3] ∧ 0 ≤ t ∧ (j : Int) = 64 - t ∧ Drw H1 st c ns ∧ But st H H1, ⟨64, 0, _, rfl, by decide, rfl, dr, But.refl _ _⟩, ?_⟩
      rintro j σ H1 ⟨t, o3, rfl, t0, hj, d1, b1⟩
      obtain ⟨hc, n, v, b, n0, hs⟩ := id d1
      refine ⟨_, rfl, _, _, rfl, rfl, _, rfl, ?_⟩
      refine ite2 (fun ht => ?_) (fun _ => ?_)
      · have ht' : t < 64 := of_decide_eq_true ht
        refine tt_any (fun K' kT kF => ?_) ?_ ?_
        · refine ⟨_, rfl, _, _, _, _, rfl, rfl, SqL.of hs, rfl, rfl, _, rfl, ?_⟩
          refine ite2 (fun _ => kT) (fun _ => ?_)
          refine ⟨_, rfl, _, _, _, _, rfl, rfl, SqL.of hs, rfl, _, rfl, ?_⟩
          refine ite2 (fun _ => ?_) (fun _ => kF)
          refine ⟨_, rfl, _, _, _, _, rfl, rfl, SqL.of hs, rfl, _, rfl, _, _, rfl, rfl, .inr ⟨by decide, by decide⟩, _, _, rfl, rfl, _, rfl, ?_⟩
          exact ite3 (fun _ => kT) (fun _ => kF)
        · refine iteT ⟨fun σ' H2 => ∃ o3', σ' = [some (.ref st), some (.int m), some (.int (t + 1)), o3'] ∧ Drw H2 st c ns ∧ But st H H2, fun σ' H2 ⟨o3', e, d2, b2⟩ => ⟨j - 1, by omega, t + 1, o3', e, by omega, by omega, d2, b2⟩, ?_⟩
          refine ⟨_, rfl, st, c, ns, rfl, d1, hn, fun H2 d2 b2 => ?_⟩
          obtain ⟨hc2, n2, v2, w2, n20, hs2⟩ := id d2
          refine ⟨_, rfl, _, _, rfl, rfl, ?_⟩
          dsimp only
          unfold tIfS
          refine tt_any (fun K' kT kF => ?_) ?_ ?_
          · refine ⟨_, rfl, _, _, _, _, rfl, rfl, SqL.of hs2, rfl, _, rfl, ?_⟩
            refine ite2 (fun _ => ?_) (fun _ => kF)
            refine ⟨_, rfl, _, _, _, _, rfl, rfl, SqL.of hs2, rfl, _, rfl, _, _, rfl, rfl, .inr ⟨by decide, by decide⟩, _, _, rfl, rfl, _, rfl, ?_⟩
            exact ite3 (fun _ => kT) (fun _ => kF)
          · refine iteT ?_
            refine ⟨_, rfl, _, _, _, _, rfl, rfl, SqL.of hs2, rfl, _, rfl, _, _, rfl, rfl, .inr ⟨by decide, by decide⟩, ?_⟩
            refine ⟨_, rfl, _, _, _, _, rfl, rfl, SqL.of hs2, rfl, .inl ⟨_, rfl, ?_⟩⟩
            refine ⟨_, _, rfl, rfl, (by show (4093 : Int) ≠ 0; decide), _, _, rfl, rfl, _, _, rfl, rfl, .inl ⟨by omega, by omega⟩, _, _, rfl, rfl, _, rfl, _, _, _, _, rfl, rfl, hs2, rfl, ?_⟩
            exact ⟨_, rfl, d2.put n20, (b1.trans b2).upd⟩
          · refine iteF ?_
            exact ⟨_, rfl, d2, b1.trans b2⟩
        · exact iteF ⟨_, _, rfl, d1, b1⟩
      · exact iteF ⟨_, _, rfl, d1, b1⟩
    · rintro σ' H1 ⟨t, o3, rfl, d1, b1⟩
      obtain ⟨hc, n, v, b, n0, hs⟩ := id d1
      refine ⟨_, rfl, _, _, _, _, rfl, rfl, SqL.of hs, rfl, .inl ⟨_, rfl, ?_⟩⟩
      refine ⟨_, rfl, _, _, rfl, rfl, by omega, ?_⟩
      refine ⟨_, rfl, _, _, _, _, rfl, rfl, SqL.of hs, rfl, _, rfl, _, _, rfl, rfl, ⟨by omega, by omega⟩, _, rfl, _, _, _, _, rfl, rfl, hs, rfl, ?_⟩
      exact ⟨_, rfl, k _ _ (Int.fmod_nonneg_of_pos _ m0) (Int.fmod_lt_of_pos _ m0) (d1.put n0) b1.upd⟩
/-- one of the things of a list or tuple -/
def spOne (K : PySem.W.Frag) : Sp := fun vs H Q _ => ∃ (st c a : Addr) (ns : List Int) (xs : List V), vs = [.ref st, .ref a] ∧ Drw H st c ns ∧ ns.length ≤ 63 ∧ a ≠ st ∧ (SqL K H a xs ∨ SqT K H a xs) ∧ 0 < xs.length ∧ xs.length ≤ 10000 ∧
  ∀ (x : V) (H' : Hp), x ∈ xs → Drw H' st c ns → But st H H' → Q x H'
theorem scOne : FnScope ["_law_state", "_law_things"] ["_law_state", "_law_things"] (defScope sOne) := ⟨rfl, rfl, rfl, by decide +kernel, rfl, by decide +kernel, by decide +kernel⟩
theorem pr_one (D : Df K mg "_law_one" sOne ["_law_state", "_law_things"]) (T : Tx mg) (PT : Pr P w K mg base 2 "_law_take" ["_law_state", "_law_many"] spTake) : Pr P w K mg base 3 "_law_one" ["_law_state", "_law_things"] (spOne K) := by
  refine D.pr scOne (fun vs H Q E h => ?_) (fun f cdv A outer s H vs Q E hr h => ?_)
  · obtain ⟨p, c, a, ns, xs, rfl, _⟩ := h
    rfl
  · obtain ⟨st, c, a, ns, xs, rfl, dr, hn, hne, hx, x0, x1, k⟩ := h
    refine ⟨_, (pss_one (ps_ret (pe_ix ix_seq (pv 1) (pe_callP PT hr (by rfl) (pa_cons (pv 0) (pa_cons (pe_callB call_len (by rfl) T.len PySem.boot_len (pa_cons (pv 1) pa_nil)) pa_nil))) (fun _ _ => rfl)))), ?_⟩
    refine ⟨_, rfl, _, rfl, _, rfl, _, xs.length, rfl, ?_, ?_⟩
    · rcases hx with h | h
      · exact .inl ⟨_, h, rfl⟩
      · exact .inr ⟨_, h, rfl⟩
    · refine ⟨st, c, ns, _, rfl, dr, hn, by omega, by omega, fun d H' d0 d1 dr' bt => ?_⟩
      obtain ⟨j, rfl⟩ := Int.eq_ofNat_of_zero_le d0
      have hj : j < xs.length := by omega
      rcases hx with h | h
      · exact .inl ⟨_, _, _, _, rfl, rfl, My.But.sqL bt hne h, atI_nat (List.getElem?_eq_getElem hj), k _ _ (List.getElem_mem hj) dr' bt⟩
      · exact .inr (.inl ⟨_, _, _, _, rfl, rfl, My.But.sqT bt hne h, atI_nat (List.getElem?_eq_getElem hj), k _ _ (List.getElem_mem hj) dr' bt⟩)
def spFresh (K : PySem.W.Frag) : Sp := fun vs H Q _ => ∃ (a : Addr) (ns : List Int), vs = [.ref a] ∧ SqL K H a (ns.map V.int) ∧ ns.length ≤ 63 ∧
  ∀ (st c : Addr) (H' : Hp), H st = none → H c = none → Drw H' st c ns → Same H H' → Q (.ref st) H'
theorem scFresh : FnScope ["_law_script_here"] ["_law_script_here"] (defScope sFresh) := ⟨rfl, rfl, rfl, by decide +kernel, rfl, by decide +kernel, by decide +kernel⟩
theorem pr_fresh (D : Df K mg "_law_fresh" sFresh ["_law_script_here"]) : Pr P w K mg base 1 "_law_fresh" ["_law_script_here"] (spFresh K) := by
  refine D.pr scFresh (fun vs H Q E h => ?_) (fun f cdv A outer s H vs Q E hr h => ?_)
  · obtain ⟨a, ns, rfl, _⟩ := h
    rfl
  · obtain ⟨a, ns, rfl, ha, hn, k⟩ := h
    refine ⟨_, (pss_one (ps_ret (pe_lst (pa_cons (pe_slice sl_list (pv 0) po_none (po_some pe_int)) (pa_cons pe_int (pa_cons pe_int (pa_cons pe_bl pa_nil))))))), ?_⟩
    refine ⟨_, rfl, _, rfl, _, _, rfl, ha, fun c hc => ⟨(by show 4 ≤ sizeLine; decide), fun st hst => ?_⟩⟩
    have e : cutV (ns.map V.int) none (some 63) = ns.map V.int := by
      have h1 : HT.sIx (ns.map V.int).length 0 none = 0 := rfl
      have h2 : (ns.map V.int).length ≤ HT.sIx (ns.map V.int).length (ns.map V.int).length (some 63) := by
        rw [List.length_map]
        show ns.length ≤ HT.sIx ns.length ns.length (some 63)
        unfold HT.sIx
        simp
        omega
      unfold cutV
      rw [h1, List.drop_zero, Nat.sub_zero, List.take_of_length_le h2]
    have hst0 : H st = none := by
      by_cases q : st = c
      · rw [q, upd_same] at hst
        cases hst
      · rw [upd_ne q] at hst
        exact hst
    refine k st c _ hst0 hc ⟨?_, 0, 0, false, by decide, upd_same⟩ fun b o hb => ?_
    · rw [upd_ne (ne_of_none upd_same hst), upd_same, e]
    · rw [upd_ne (ne_of_none hb hst0), upd_ne (ne_of_none hb hc)]
      exact hb
end
end C79

set_option Elab.async false
set_option maxRecDepth 100000
set_option maxHeartbeats 4000000
set_option linter.all false
namespace C79
open PySem L2 My
abbrev sSame : Stmt := top 43
structure Ty (mg : Str → Option Value) : Prop where
  len : mg "len" = none
  int : mg "int" = none
  bool : mg "bool" = none
  list : mg "list" = none
  tuple : mg "tuple" = none
  isinstance : mg "isinstance" = none
  all : mg "all" = none
  zip : mg "zip" = none
def spS : Nat → Sp
  | 0 => fun _ _ _ _ => False
  | n + 1 => spSame n
section
variable {P : Program} {w : World} {K : PySem.W.Frag} {mg : Str → Option Value} {base : Heap}
abbrev nSame : List Str := ["_law_found", "_law_due", "_law_a", "_law_b"]
theorem scSame : FnScope nSame ["_law_found", "_law_due"] (defScope sSame) := ⟨rfl, rfl, rfl, by decide +kernel, rfl, by decide +kernel, by decide +kernel⟩
theorem step_same {n : Nat} (D : Df K mg "_law_same" sSame ["_law_found", "_law_due"]) (T : Ty mg) (PS : Pr P w K mg base n "_law_same" ["_law_found", "_law_due"] (spS n)) : Pr P w K mg base (n + 1) "_law_same" ["_law_found", "_law_due"] (spSame n) := by
  refine D.pr scSame (fun vs H Q E h => ?_) (fun f cdv A outer s H vs Q E hr h => ?_)
  · obtain ⟨m, x, y, d, o, rfl, _⟩ := h
    rfl
  · obtain ⟨m, x, y, d, o, rfl, hm, hx, hy, lv, k⟩ := h
    have nd := scSame.nd
    refine ⟨_, (pss_cons (ps_if (pt_val (pe_callB call_isiT (by rfl) T.isinstance (by decide +kernel) (pa_cons (pv 1) (pa_cons (pe_tup (pa_cons (pe_bltn (v := .ty "list") (by rfl) T.list (by decide +kernel) rfl) (pa_cons (pe_bltn (v := .ty "tuple") (by rfl) T.tuple (by decide +kernel) rfl) pa_nil))) pa_nil))))
        (pss_cons (ps_if (PW.pt (pw_or (pt_cmpR op_ne (pe_callB call_isi (by rfl) T.isinstance (by decide +kernel) (pa_cons (pv 0) (pa_cons (pe_bltn (v := .ty "list") (by rfl) T.list (by decide +kernel) rfl) pa_nil))) (pe_callB call_isi (by rfl) T.isinstance (by decide +kernel) (pa_cons (pv 1) (pa_cons (pe_bltn (v := .ty "list") (by rfl) T.list (by decide +kernel) rfl) pa_nil))) (nomark _)) (pw_or1 (pt_cmpR op_ne (pe_callB call_isi (by rfl) T.isinstance (by decide +kernel) (pa_cons (pv 0) (pa_cons (pe_bltn (v := .ty "tuple") (by rfl) T.tuple (by decide +kernel) rfl) pa_nil))) (pe_callB call_isi (by rfl) T.isinstance (by decide +kernel) (pa_cons (pv 1) (pa_cons (pe_bltn (v := .ty "tuple") (by rfl) T.tuple (by decide +kernel) rfl) pa_nil))) (nomark _)))))
          (pss_one (ps_ret pe_bl))
          pss_nil)
        (pss_one (ps_ret (pe_and (pe_cmpR op_eq (pe_callB call_len (by rfl) T.len PySem.boot_len (pa_cons (pv 0) pa_nil)) (pe_callB call_len (by rfl) T.len PySem.boot_len (pa_cons (pv 1) pa_nil)) (nomark _)) (pe_one (pe_callB (cr_all rfl) (by rfl) T.all (by decide +kernel) (pa_cons (pe_lc (own := [("_law_a", 2), ("_law_b", 3)]) (g := gTup K 2 (gCons (gName 2) (gCons (gName 3) gNil))) (tt := tYes) (by rfl) nd (RZ.pi_zipA (by rfl) T.zip (pa_cons (pv 0) (pa_cons (pv 1) pa_nil)))
  (blkOk_by (own := [("_law_a", 2), ("_law_b", 3)]) (N := nSame) (sc := defScope sSame) (by decide +kernel))
  (fun _ _ _ _ _ => pg_tup rfl (pgs_cons (pg_name (i := 2) nd rfl (Or.inl rfl) (Or.inr rfl)) (pgs_cons (pg_name (i := 3) nd rfl (Or.inl rfl) (Or.inr rfl)) pgs_nil))) (fun _ _ _ _ _ => pts_nil)
  (fun _ _ _ _ _ => (pe_callP PS hr (by rfl) (pa_cons (pv 2) (pa_cons (pv 3) pa_nil))))) pa_nil)))))))
        pss_nil)
      (pss_cons (ps_if (pt_val (pe_callB call_isi (by rfl) T.isinstance (by decide +kernel) (pa_cons (pv 1) (pa_cons (pe_bltn (v := .ty "int") (by rfl) T.int (by decide +kernel) rfl) pa_nil))))
        (pss_one (ps_ret (pe_and (pe_callB call_isi (by rfl) T.isinstance (by decide +kernel) (pa_cons (pv 0) (pa_cons (pe_bltn (v := .ty "int") (by rfl) T.int (by decide +kernel) rfl) pa_nil))) (pe_and (pe_cmpR op_eq (pe_callB call_isi (by rfl) T.isinstance (by decide +kernel) (pa_cons (pv 0) (pa_cons (pe_bltn (v := .ty "bool") (by rfl) T.bool (by decide +kernel) rfl) pa_nil))) (pe_callB call_isi (by rfl) T.isinstance (by decide +kernel) (pa_cons (pv 1) (pa_cons (pe_bltn (v := .ty "bool") (by rfl) T.bool (by decide +kernel) rfl) pa_nil))) (nomark _)) (pe_one (pe_cmpR op_eq (pv 0) (pv 1) (nomark _)))))))
        pss_nil)
      (pss_one (ps_ret (pe_and (pe_cmpR op_isBl (pe_callB call_isiT (by rfl) T.isinstance (by decide +kernel) (pa_cons (pv 0) (pa_cons (pe_tup (pa_cons (pe_bltn (v := .ty "bool") (by rfl) T.bool (by decide +kernel) rfl) (pa_cons (pe_bltn (v := .ty "int") (by rfl) T.int (by decide +kernel) rfl) (pa_cons (pe_bltn (v := .ty "list") (by rfl) T.list (by decide +kernel) rfl) (pa_cons (pe_bltn (v := .ty "tuple") (by rfl) T.tuple (by decide +kernel) rfl) pa_nil))))) pa_nil))) pe_bl (nomark _)) (pe_one (pe_cmpR op_eq (pv 0) (pv 1) (nomark _)))))))), ?_⟩
    refine ⟨_, rfl, (by show 2 ≤ sizeLine; decide), fun tp htp => ?_⟩
    have s1 : Same H (upd H tp (.tup [.ty "list", .ty "tuple"])) := fun b o e => by
      rw [upd_ne (ne_of_none e htp)]
      exact e
    have hx1 := hx.mono (Same.but s1)
    have hy1 := hy.mono (Same.but s1)
    have hxs : ∀ H', Same H H' → At m H' x d := fun H' s => hx.mono (Same.but s)
    cases lv with
    | non n =>
      cases hx
      cases hy
      refine ⟨_, _, _, _, _, false, rfl, upd_same, cls_all ["list", "tuple"], (hy1).ty, kit_any k_NoneType_lt, ?_⟩
      refine ⟨_, rfl, iteF ?_⟩
      refine ⟨_, rfl, ?_⟩
      refine ⟨_, _, _, _, false, rfl, .ty _, hy1.ty, kit_ty k_NoneType_int, ?_⟩
      refine ⟨_, rfl, iteF ?_⟩
      refine ⟨_, rfl, (by show 4 ≤ sizeLine; decide), fun tq htq => ?_⟩
      have s2 : Same H (upd (upd H tp (.tup [.ty "list", .ty "tuple"])) tq (.tup [.ty "bool", .ty "int", .ty "list", .ty "tuple"])) := fun b o e => by
        rw [upd_ne (ne_of_none (s1 _ _ e) htq)]
        exact s1 _ _ e
      refine ⟨_, _, _, _, _, false, rfl, upd_same, cls_all ["bool", "int", "list", "tuple"], (hxs _ s2).ty, kit_any k_NoneType_bilt, ?_⟩
      refine ⟨_, _, rfl, rfl, _, rfl, iteT ?_⟩
      refine ⟨_, rfl, _, rfl, rfl, ?_⟩
      rw [decide_eq_true rfl]
      exact k _ s2
    | bl n b =>
      cases hx
      cases hy
      refine ⟨_, _, _, _, _, false, rfl, upd_same, cls_all ["list", "tuple"], (hy1).ty, kit_any k_bool_lt, ?_⟩
      refine ⟨_, rfl, iteF ?_⟩
      refine ⟨_, rfl, ?_⟩
      refine ⟨_, _, _, _, true, rfl, .ty _, hy1.ty, kit_ty k_bool_int, ?_⟩
      refine ⟨_, rfl, iteT ?_⟩
      refine ⟨_, rfl, ?_⟩
      refine ⟨_, _, _, _, true, rfl, .ty _, hx1.ty, kit_ty k_bool_int, ?_⟩
      refine ⟨_, rfl, iteT ?_⟩
      refine ⟨_, rfl, ?_⟩
      refine ⟨_, _, _, _, true, rfl, .ty _, hx1.ty, kit_ty k_bool_bool, ?_⟩
      refine ⟨_, rfl, ?_⟩
      refine ⟨_, _, _, _, true, rfl, .ty _, hy1.ty, kit_ty k_bool_bool, ?_⟩
      refine ⟨rfl, _, rfl, iteT ?_⟩
      refine ⟨_, rfl, _, rfl, rfl, ?_⟩
      rw [decide_eq_true rfl]
      exact k _ s1
    | int n i =>
      cases hx
      cases hy
      refine ⟨_, _, _, _, _, false, rfl, upd_same, cls_all ["list", "tuple"], (hy1).ty, kit_any k_int_lt, ?_⟩
      refine ⟨_, rfl, iteF ?_⟩
      refine ⟨_, rfl, ?_⟩
      refine ⟨_, _, _, _, true, rfl, .ty _, hy1.ty, kit_ty k_int_int, ?_⟩
      refine ⟨_, rfl, iteT ?_⟩
      refine ⟨_, rfl, ?_⟩
      refine ⟨_, _, _, _, true, rfl, .ty _, hx1.ty, kit_ty k_int_int, ?_⟩
      refine ⟨_, rfl, iteT ?_⟩
      refine ⟨_, rfl, ?_⟩
      refine ⟨_, _, _, _, false, rfl, .ty _, hx1.ty, kit_ty k_int_bool, ?_⟩
      refine ⟨_, rfl, ?_⟩
      refine ⟨_, _, _, _, false, rfl, .ty _, hy1.ty, kit_ty k_int_bool, ?_⟩
      refine ⟨rfl, _, rfl, iteT ?_⟩
      refine ⟨_, rfl, _, rfl, rfl, ?_⟩
      rw [decide_eq_true rfl]
      exact k _ s1
    | str n z =>
      cases hx
      cases hy
      refine ⟨_, _, _, _, _, false, rfl, upd_same, cls_all ["list", "tuple"], (hy1).ty, kit_any k_str_lt, ?_⟩
      refine ⟨_, rfl, iteF ?_⟩
      refine ⟨_, rfl, ?_⟩
      refine ⟨_, _, _, _, false, rfl, .ty _, hy1.ty, kit_ty k_str_int, ?_⟩
      refine ⟨_, rfl, iteF ?_⟩
      refine ⟨_, rfl, (by show 4 ≤ sizeLine; decide), fun tq htq => ?_⟩
      have s2 : Same H (upd (upd H tp (.tup [.ty "list", .ty "tuple"])) tq (.tup [.ty "bool", .ty "int", .ty "list", .ty "tuple"])) := fun b o e => by
        rw [upd_ne (ne_of_none (s1 _ _ e) htq)]
        exact s1 _ _ e
      refine ⟨_, _, _, _, _, false, rfl, upd_same, cls_all ["bool", "int", "list", "tuple"], (hxs _ s2).ty, kit_any k_str_bilt, ?_⟩
      refine ⟨_, _, rfl, rfl, _, rfl, iteT ?_⟩
      refine ⟨_, rfl, _, rfl, rfl, ?_⟩
      rw [decide_eq_true rfl]
      exact k _ s2
    | lst sz lv0 =>
      rename_i n0 ds0
      obtain ⟨a, xs, nx, ex, qx⟩ : ∃ a xs, a ≠ m ∧ (x = .ref a ∧ H a = some (.lst xs)) ∧ AtAll m H xs ds0 := by
        cases hx with
        | lst n0 h0 q0 => exact ⟨_, _, n0, ⟨rfl, h0⟩, q0⟩
      obtain ⟨b, ys, ny, ey, qy⟩ : ∃ b ys, b ≠ m ∧ (y = .ref b ∧ H b = some (.lst ys)) ∧ AtAll m H ys ds0 := by
        cases hy with
        | lst n0 h0 q0 => exact ⟨_, _, n0, ⟨rfl, h0⟩, q0⟩
      obtain ⟨rfl, ex⟩ := ex
      obtain ⟨rfl, ey⟩ := ey
      have lx := qx.length
      have ly := qy.length
      refine ⟨_, _, _, _, _, true, rfl, upd_same, cls_all ["list", "tuple"], (hy1).ty, kit_any k_list_lt, ?_⟩
      refine ⟨_, rfl, iteT ?_⟩
      refine ⟨_, rfl, ?_⟩
      refine ⟨_, _, _, _, true, rfl, .ty _, hx1.ty, kit_ty k_list_list, ?_⟩
      refine ⟨_, rfl, ?_⟩
      refine ⟨_, _, _, _, true, rfl, .ty _, hy1.ty, kit_ty k_list_list, ?_⟩
      refine ⟨rfl, _, rfl, iteF ?_⟩
      refine ⟨_, rfl, ?_⟩
      refine ⟨_, _, _, _, false, rfl, .ty _, hx1.ty, kit_ty k_list_tuple, ?_⟩
      refine ⟨_, rfl, ?_⟩
      refine ⟨_, _, _, _, false, rfl, .ty _, hy1.ty, kit_ty k_list_tuple, ?_⟩
      refine ⟨rfl, _, rfl, iteF ?_⟩
      refine ⟨_, rfl, _, _, rfl, .inl ⟨_, SqL.of (s1 _ _ ex), rfl⟩, _, rfl, _, _, rfl, .inl ⟨_, SqL.of (s1 _ _ ey), rfl⟩, rfl, ?_⟩
      have el : decide (V.int (xs.length : Int) = V.int (ys.length : Int)) = true := decide_eq_true (by rw [lx, ly])
      refine ⟨true, congrArg V.bl el, iteT ?_⟩
      refine ⟨_, rfl, _, rfl, _, _, _, _, rfl, .inl ⟨SqL.of (s1 _ _ ex), SqL.of (s1 _ _ ey), ?_⟩⟩
      intro Dl hD
      refine lc_it (walk_zipL (lx.trans ly.symm)) (fun i H2 => Same H H2 ∧ H Dl = none ∧ H2 Dl = some (.lst ((List.replicate i true).map V.bl))) ?_ ?_ ?_ ?_
      · exact ⟨fun b o e => by rw [upd_ne (ne_of_none (s1 _ _ e) hD)]; exact s1 _ _ e, s1.free hD, upd_same⟩
      · exact fun i H2 _ q => ⟨SqL.of (q.1 _ _ ex), SqL.of (q.1 _ _ ey)⟩
      · rintro i z H2 H3 hi ⟨sm, nD, hl⟩ ⟨T2, u, v, rfl, hT2, rfl, eu, ev⟩
        have nDT : Dl ≠ T2 := ne_of_none hl hT2
        have s3 : Same H (upd H2 T2 (.tup [u, v])) := fun b o e => by
          rw [upd_ne (ne_of_none (sm _ _ e) hT2)]
          exact sm _ _ e
        obtain ⟨du, e1, au⟩ := qx.get eu
        obtain ⟨dv, e2, av⟩ := qy.get ev
        obtain rfl : du = dv := Option.some.inj (e1.symm.trans e2)
        refine ⟨_, _, rfl, SqT.of upd_same, rfl, _, _, rfl, _, _, rfl, rfl, rfl, ?_⟩
        refine ⟨_, rfl, _, rfl, m, u, v, du, o, rfl, s3 _ _ hm, au.mono (Same.but s3), av.mono (Same.but s3), lv0 _ (List.mem_of_getElem? e1), fun H4 s4 => ?_⟩
        refine ⟨_, s4 _ _ (by rw [upd_ne nDT]; exact hl), ?_, ?_⟩
        · rw [List.length_map, List.length_replicate]
          exact small6 (by omega)
        · refine ⟨fun b o e => ?_, nD, ?_⟩
          · rw [upd_ne (ne_of_none e nD)]
            exact s4 _ _ (s3 _ _ e)
          · rw [upd_same, List.replicate_succ', List.map_append]
            rfl
      · rintro H2 ⟨sm, nD, hl⟩
        refine ⟨_, _, rfl, SqL.of hl, ?_⟩
        have ea : (List.replicate xs.length true).all id = true := by
          rw [List.all_eq_true]
          intro b hb
          rw [List.eq_of_mem_replicate hb]
          rfl
        rw [ea]
        exact k _ sm
    | tup sz lv0 =>
      rename_i n0 ds0
      obtain ⟨a, xs, nx, ex, qx⟩ : ∃ a xs, a ≠ m ∧ (x = .ref a ∧ H a = some (.tup xs)) ∧ AtAll m H xs ds0 := by
        cases hx with
        | tup n0 h0 q0 => exact ⟨_, _, n0, ⟨rfl, h0⟩, q0⟩
      obtain ⟨b, ys, ny, ey, qy⟩ : ∃ b ys, b ≠ m ∧ (y = .ref b ∧ H b = some (.tup ys)) ∧ AtAll m H ys ds0 := by
        cases hy with
        | tup n0 h0 q0 => exact ⟨_, _, n0, ⟨rfl, h0⟩, q0⟩
      obtain ⟨rfl, ex⟩ := ex
      obtain ⟨rfl, ey⟩ := ey
      have lx := qx.length
      have ly := qy.length
      refine ⟨_, _, _, _, _, true, rfl, upd_same, cls_all ["list", "tuple"], (hy1).ty, kit_any k_tuple_lt, ?_⟩
      refine ⟨_, rfl, iteT ?_⟩
      refine ⟨_, rfl, ?_⟩
      refine ⟨_, _, _, _, false, rfl, .ty _, hx1.ty, kit_ty k_tuple_list, ?_⟩
      refine ⟨_, rfl, ?_⟩
      refine ⟨_, _, _, _, false, rfl, .ty _, hy1.ty, kit_ty k_tuple_list, ?_⟩
      refine ⟨rfl, _, rfl, iteF ?_⟩
      refine ⟨_, rfl, ?_⟩
      refine ⟨_, _, _, _, true, rfl, .ty _, hx1.ty, kit_ty k_tuple_tuple, ?_⟩
      refine ⟨_, rfl, ?_⟩
      refine ⟨_, _, _, _, true, rfl, .ty _, hy1.ty, kit_ty k_tuple_tuple, ?_⟩
      refine ⟨rfl, _, rfl, iteF ?_⟩
      refine ⟨_, rfl, _, _, rfl, .inr ⟨_, SqT.of (s1 _ _ ex), rfl⟩, _, rfl, _, _, rfl, .inr ⟨_, SqT.of (s1 _ _ ey), rfl⟩, rfl, ?_⟩
      have el : decide (V.int (xs.length : Int) = V.int (ys.length : Int)) = true := decide_eq_true (by rw [lx, ly])
      refine ⟨true, congrArg V.bl el, iteT ?_⟩
      refine ⟨_, rfl, _, rfl, _, _, _, _, rfl, .inr ⟨SqT.of (s1 _ _ ex), SqT.of (s1 _ _ ey), ?_⟩⟩
      intro Dl hD
      refine lc_it (walk_zipT (lx.trans ly.symm)) (fun i H2 => Same H H2 ∧ H Dl = none ∧ H2 Dl = some (.lst ((List.replicate i true).map V.bl))) ?_ ?_ ?_ ?_
      · exact ⟨fun b o e => by rw [upd_ne (ne_of_none (s1 _ _ e) hD)]; exact s1 _ _ e, s1.free hD, upd_same⟩
      · exact fun i H2 _ q => ⟨SqT.of (q.1 _ _ ex), SqT.of (q.1 _ _ ey)⟩
      · rintro i z H2 H3 hi ⟨sm, nD, hl⟩ ⟨T2, u, v, rfl, hT2, rfl, eu, ev⟩
        have nDT : Dl ≠ T2 := ne_of_none hl hT2
        have s3 : Same H (upd H2 T2 (.tup [u, v])) := fun b o e => by
          rw [upd_ne (ne_of_none (sm _ _ e) hT2)]
          exact sm _ _ e
        obtain ⟨du, e1, au⟩ := qx.get eu
        obtain ⟨dv, e2, av⟩ := qy.get ev
        obtain rfl : du = dv := Option.some.inj (e1.symm.trans e2)
        refine ⟨_, _, rfl, SqT.of upd_same, rfl, _, _, rfl, _, _, rfl, rfl, rfl, ?_⟩
        refine ⟨_, rfl, _, rfl, m, u, v, du, o, rfl, s3 _ _ hm, au.mono (Same.but s3), av.mono (Same.but s3), lv0 _ (List.mem_of_getElem? e1), fun H4 s4 => ?_⟩
        refine ⟨_, s4 _ _ (by rw [upd_ne nDT]; exact hl), ?_, ?_⟩
        · rw [List.length_map, List.length_replicate]
          exact small6 (by omega)
        · refine ⟨fun b o e => ?_, nD, ?_⟩
          · rw [upd_ne (ne_of_none e nD)]
            exact s4 _ _ (s3 _ _ e)
          · rw [upd_same, List.replicate_succ', List.map_append]
            rfl
      · rintro H2 ⟨sm, nD, hl⟩
        refine ⟨_, _, rfl, SqL.of hl, ?_⟩
        have ea : (List.replicate xs.length true).all id = true := by
          rw [List.all_eq_true]
          intro b hb
          rw [List.eq_of_mem_replicate hb]
          rfl
        rw [ea]
        exact k _ sm
theorem pr_same (D : Df K mg "_law_same" sSame ["_law_found", "_law_due"]) (T : Ty mg) : ∀ n, Pr P w K mg base n "_law_same" ["_law_found", "_law_due"] (spS n)
  | 0 => by
    obtain ⟨f, fd, F, b, g⟩ := D
    exact ⟨f, fd, ⟨fun _ _ _ _ h => h.elim, fun _ _ _ _ _ _ _ _ _ _ _ _ _ h => h.elim⟩, g, F.kp, b⟩
  | n + 1 => step_same D T (pr_same D T n)
end
end C79

set_option Elab.async false
set_option maxRecDepth 100000
set_option maxHeartbeats 4000000
set_option linter.all false
/-! max(xs, default=z) of a list of ints -/
namespace My
open PySem PySem.Spec PyProof.Rows L2
def topOf (z : Int) : List Int → Int
  | [] => z
  | n :: r => r.foldl max n
def rMaxD (K : PySem.W.Frag) : List V → List V → Hp → VK → Prop := fun xs zs H Q => ∃ (a : Addr) (ns : List Int) (z : Int), xs = [.ref a] ∧ zs = [.int z] ∧ SqL K H a (ns.map V.int) ∧ Q (.int (topOf z ns)) H
theorem ints_reads {h : Heap} : ∀ {ns : List Int} {us : List Value}, Vals (ns.map V.int) us → ReadsAll h us (ns.map PyData.int) []
  | [], _, .nil => .nil
  | n :: r, _, .cons e q => by
    obtain ⟨t, rfl⟩ := e
    exact .cons (.int n t) (ints_reads q)
theorem ints_alike (ns : List Int) : PySem.W.AlikeAll (ns.map PyData.int) := by
  refine ⟨fun x hx y hy => ?_, fun x hx => ?_⟩
  · obtain ⟨i, _, rfl⟩ := List.mem_map.mp hx
    obtain ⟨j, _, rfl⟩ := List.mem_map.mp hy
    simp [PySem.W.alike]
  · obtain ⟨i, _, rfl⟩ := List.mem_map.mp hx
    exact fun z => nomatch z
theorem ints_depth : ∀ ns : List Int, PyData.depthAll (ns.map PyData.int) ≤ 1
  | [] => Nat.zero_le _
  | n :: r => by
    have := ints_depth r
    simp [PyData.depthAll, PyData.depth]
    omega
theorem cr_maxD {X : Cx} (hc : X.calm = true) (hu : X.A.units + 64 < cLine) : CallRK X (.builtin "max") ["default"] (rMaxD X.K) := by
  intro pins s σ H xs zs us ws Q I rx rz h
  obtain ⟨a, ns, z, rfl, rfl, hq, q⟩ := h
  cases rz with
  | cons rz1 rr =>
    cases rr
    obtain ⟨tz, rfl⟩ := rz1
    rw [Vals.ref1 rx]
    obtain ⟨its, rv, hl, _⟩ := I.list hq
    have hd := ints_depth ns
    refine PySem.W.max_list_default (I.ok.hd hc) hl.isList (xs := ns.map PyData.int) (by simpa using ints_reads rv) (ints_alike ns) (by omega) (fun e h' tk hk => ?_) (fun y ys i v h' tk bs e hv rd hk => ?_)
    · cases ns with
      | nil => exact ⟨.int z, H, I.kept (t' := tk) hk, ⟨_, rfl⟩, q⟩
      | cons n r => cases e
    · cases ns with
      | nil => cases e
      | cons n r =>
        injection e with e1 e2
        subst e1 e2
        rw [PySem.W.maxD_ints] at rd
        cases rd
        exact ⟨.int _, H, I.kept (t' := tk) hk, ⟨_, rfl⟩, q⟩
end My

set_option Elab.async false
set_option maxRecDepth 100000
set_option linter.all false
/-! The mirror of the scripts' steps: words, rows, locks. -/
namespace M78
open PySem L2 My
inductive Wd where
  | beg | imm | exc | com | rol | rea | sta | sto | wri
  deriving DecidableEq
def wS : Wd → Str
  | .beg => "begin" | .imm => "immediate" | .exc => "exclusive" | .com => "commit" | .rol => "rollback" | .rea => "read" | .sta => "start" | .sto => "stop" | .wri => "write"
theorem eqW (w v : Wd) : decide (V.str (wS w) = V.str (wS v)) = decide (w = v) := by
  cases w <;> cases v <;> decide +kernel
structure Row where
  p : Int
  o : Bool
  r : Bool
  l : Int
  deriving DecidableEq
def rowV (x : Row) : List V := [.int x.p, .bl x.o, .bl x.r, .int x.l]
def rowD (x : Row) : PyData := .tuple [.int x.p, .bool x.o, .bool x.r, .int x.l]
def oV : Option Int → V
  | none => .non
  | some i => .int i
def isOp (w : Wd) : Bool := w == .beg || (w == .imm || w == .exc)
def isEn (w : Wd) : Bool := w == .com || w == .rol
def isRs (w : Wd) : Bool := w == .rea || w == .sta
def isRsw (w : Wd) : Bool := w == .rea || (w == .sta || w == .wri)
theorem in_op (w : Wd) : inV (.str (wS w)) [.str (Str.ofString "begin"), .str (Str.ofString "immediate"), .str (Str.ofString "exclusive")] = isOp w := by cases w <;> decide +kernel
theorem in_en (w : Wd) : inV (.str (wS w)) [.str (Str.ofString "commit"), .str (Str.ofString "rollback")] = isEn w := by cases w <;> decide +kernel
theorem in_rs (w : Wd) : inV (.str (wS w)) [.str (Str.ofString "read"), .str (Str.ofString "start")] = isRs w := by cases w <;> decide +kernel
theorem in_rsw (w : Wd) : inV (.str (wS w)) [.str (Str.ofString "read"), .str (Str.ofString "start"), .str (Str.ofString "write")] = isRsw w := by cases w <;> decide +kernel
def restL (b : Bool) : Int := if b then 1 else 0
def openL (w : Wd) (l t : Int) : Option Int := if w = .beg then some l else if w = .imm then (if 2 ≤ t then none else some 2) else (if 1 ≤ t then none else some 4)
def workL (w : Wd) (x : Row) (t : Int) : Option Int :=
  if isRs w = true then (if x.l = 0 ∧ 3 ≤ t then none else if x.o = true then some (max x.l 1) else some (restL (x.r || decide (w = .sta))))
  else (if x.l < 2 ∧ 2 ≤ t then none else if x.o = true then some (max x.l 2) else if 1 ≤ t then none else some (restL x.r))
/-- what is left behind a step whose lock is known -/
def endL (x : Row) (o r : Bool) : Option Int → Row × Bool
  | none => (x, true)
  | some l => (⟨x.p + 1, o, r, l⟩, false)
def triedM (w : Wd) (x : Row) (t : Int) : Row × Bool :=
  if isOp w = true then endL x true x.r (openL w x.l t)
  else if isRsw w = true then endL x x.o (x.r || decide (w = .sta)) (workL w x t)
  else if w = .sto then endL x x.o false (some (if x.o = true then x.l else 0))
  else if w = .com ∧ 2 ≤ x.l ∧ 1 ≤ t then (⟨x.p, x.o, x.r, max x.l 3⟩, true)
  else endL x false x.r (some (restL x.r))
theorem max2 (i j : Int) : (if j > i then j else i) = max i j := by
  by_cases h : j > i
  · rw [if_pos h]
    omega
  · rw [if_neg h]
    omega
/-- an if whose test has the answer b and leaves the heap -/
theorem if_tv {c : TT} {t u : TS} {D : Ends} {σ : L2.St} {H : Hp} (b : Bool) (h : ∀ K : Bool → Hp → Prop, K b H → c σ H K) (hT : b = true → t D σ H) (hF : b = false → u D σ H) : tIfS c t u D σ H := h _ (by
  cases b
  · exact iteF (hF rfl)
  · exact iteT (hT rfl))
theorem seq_if_tv {c : TT} {t u r : TS} {D : Ends} {σ : L2.St} {H : Hp} (b : Bool) (h : ∀ K : Bool → Hp → Prop, K b H → c σ H K) (hT : b = true → t { D with nx := r D } σ H) (hF : b = false → u { D with nx := r D } σ H) : tSeq (tIfS c t u) r D σ H := if_tv b h hT hF
theorem vint (i j : Int) : decide (V.int i = V.int j) = decide (i = j) := by
  by_cases h : i = j
  · rw [decide_eq_true h, h]
    exact decide_eq_true rfl
  · rw [decide_eq_false h]
    exact decide_eq_false fun z => h (V.int.inj z)
/-! states -/
def othL (xs : List Row) (j : Nat) : Nat → List Int
  | 0 => []
  | n + 1 => othL xs j n ++ (if n = j then [] else match xs[n]? with | some x => [x.l] | none => [])
theorem othL_len (xs : List Row) (j : Nat) : ∀ n, (othL xs j n).length ≤ n
  | 0 => Nat.le_refl _
  | n + 1 => by
    have := othL_len xs j n
    unfold othL
    rw [List.length_append]
    split
    · simp
      omega
    · split
      · simp
        omega
      · simp
        omega
def topM (xs : List Row) (j : Nat) : Int := topOf 0 (othL xs j xs.length)
def scD (ss : List (List Wd)) : PyData := .tuple (ss.map fun sc => .tuple (sc.map fun v => .str (wS v)))
def stD (xs : List Row) : PyData := .tuple (xs.map rowD)
section
variable {m : Addr} {H : Hp} {a : Addr}
theorem at_tup {v : V} {ds : List PyData} (h : At m H v (.tuple ds)) : ∃ a vs, v = .ref a ∧ a ≠ m ∧ H a = some (.tup vs) ∧ AtAll m H vs ds := by
  cases h with
  | tup n e q => exact ⟨_, _, rfl, n, e, q⟩
theorem all_ints4 {vs : List V} {p l : Int} {o r : Bool} (h : AtAll m H vs [.int p, .bool o, .bool r, .int l]) : vs = [.int p, .bl o, .bl r, .int l] := by
  cases h with
  | cons h1 q =>
    cases q with
    | cons h2 q =>
      cases q with
      | cons h3 q =>
        cases q with
        | cons h4 q =>
          cases q
          cases h1
          cases h2
          cases h3
          cases h4
          rfl
theorem row_of {v : V} {x : Row} (h : At m H v (rowD x)) : ∃ R, v = .ref R ∧ R ≠ m ∧ H R = some (.tup (rowV x)) := by
  obtain ⟨R, vs, rfl, n, e, q⟩ := at_tup h
  rw [all_ints4 q] at e
  exact ⟨R, rfl, n, e⟩
theorem row_at {R : Addr} {x : Row} (n : R ≠ m) (e : H R = some (.tup (rowV x))) : At m H (.ref R) (rowD x) := .tup n e (.cons (.int _) (.cons (.bl _) (.cons (.bl _) (.cons (.int _) .nil))))
theorem all_get : ∀ {vs : List V} {ds : List PyData} {i : Nat} {d : PyData}, AtAll m H vs ds → ds[i]? = some d → ∃ v, vs[i]? = some v ∧ At m H v d
  | _, _, _, _, .nil, e => by simp at e
  | _, _, 0, _, .cons h _, e => by
    simp at e
    subst e
    exact ⟨_, rfl, h⟩
  | _, _, i + 1, d, .cons _ q, e => by
    obtain ⟨v, h1, h2⟩ := all_get (i := i) (d := d) q (by simpa using e)
    exact ⟨v, by simpa using h1, h2⟩
theorem all_take : ∀ {vs : List V} {ds : List PyData} (n : Nat), AtAll m H vs ds → AtAll m H (vs.take n) (ds.take n)
  | _, _, 0, _ => .nil
  | _, _, _ + 1, .nil => .nil
  | _, _, n + 1, .cons h q => .cons h (all_take n q)
theorem all_drop : ∀ {vs : List V} {ds : List PyData} (n : Nat), AtAll m H vs ds → AtAll m H (vs.drop n) (ds.drop n)
  | _, _, 0, q => q
  | _, _, _ + 1, .nil => .nil
  | _, _, n + 1, .cons h q => all_drop n q
theorem all_app : ∀ {vs us : List V} {ds es : List PyData}, AtAll m H vs ds → AtAll m H us es → AtAll m H (vs ++ us) (ds ++ es)
  | _, _, _, _, .nil, q => q
  | _, _, _, _, .cons h t, q => .cons h (all_app t q)
/-- the sum of two tuples, whichever object it is -/
theorem cat_any {K : PySem.W.Frag} {b : Addr} {xs ys : List V} {o : HO} {Q : VK} (ha : H a = some (.tup xs)) (hb : H b = some (.tup ys)) (na : a ≠ m) (nb : b ≠ m) (hm : H m = some o) (hz : xs.length + ys.length ≤ sizeLine)
    (k : ∀ p H', p ≠ m → Same H H' → H' p = some (.tup (xs ++ ys)) → Q (.ref p) H') : rCatA K (.ref a) (.ref b) H Q := by
  refine ⟨a, b, xs, ys, rfl, rfl, SqT.of ha, SqT.of hb, hz, fun e => ?_, fun _ e => ?_, fun _ _ p hp => ?_⟩
  · subst e
    exact k b H nb (fun _ _ e => e) hb
  · subst e
    exact k a H na (fun _ _ e => e) (by rw [List.append_nil]; exact ha)
  · refine k p _ (fun z => by rw [z, hm] at hp; cases hp) (fun q u e => ?_) upd_same
    rw [upd_ne (ne_of_none e hp)]
    exact e
end
end M78

set_option Elab.async false
set_option maxRecDepth 100000
set_option maxHeartbeats 4000000
set_option linter.all false
namespace C79
open PySem L2 My M78
abbrev sRest : Stmt := top 17
abbrev sOpen : Stmt := top 18
abbrev sWork : Stmt := top 19
abbrev sTried : Stmt := top 20
theorem pe_gI {X : Cx} {x : Str} {z : Int} {t : Tok} {pos : Pos} (hg : Gl X x) (hm : X.mg x = some (.int z t)) (hd : (x == ("__debug__" : Str)) = false := by decide) : PE X (.Name x pos) (tC (.int z)) := pe_glob hg hm ⟨_, rfl⟩ hd
theorem pe_gR {X : Cx} {x : Str} {a : Addr} {pos : Pos} (hg : Gl X x) (hm : X.mg x = some (.ref a)) (hd : (x == ("__debug__" : Str)) = false := by decide) : PE X (.Name x pos) (tC (.ref a)) := pe_glob hg hm rfl hd
theorem same_new {H : Hp} {p : Addr} {o : HO} (h : H p = none) : Same H (upd H p o) := fun b u e => by
  rw [upd_ne (ne_of_none e h)]
  exact e
theorem Same.tr {H H1 H2 : Hp} (a : Same H H1) (b : Same H1 H2) : Same H H2 := fun x o e => b _ _ (a _ _ e)
/-- the module's constants -/
structure Tk (K : PySem.W.Frag) (mg : Str → Option Value) : Prop where
  l0 : ∃ t, mg "NO_LOCK" = some (.int 0 t)
  l1 : ∃ t, mg "SHARED" = some (.int 1 t)
  l2 : ∃ t, mg "RESERVED" = some (.int 2 t)
  l3 : ∃ t, mg "PENDING" = some (.int 3 t)
  l4 : ∃ t, mg "EXCLUSIVE" = some (.int 4 t)
  op : ∃ a, mg "OPENING" = some (.ref a) ∧ ∀ H, SqT K H a [.str (Str.ofString "begin"), .str (Str.ofString "immediate"), .str (Str.ofString "exclusive")]
  en : ∃ a, mg "ENDING" = some (.ref a) ∧ ∀ H, SqT K H a [.str (Str.ofString "commit"), .str (Str.ofString "rollback")]
  ot : ∃ a, mg "OTHERS" = some (.ref a) ∧ ∀ H, SqT K H a [.str (Str.ofString "read"), .str (Str.ofString "start"), .str (Str.ofString "stop"), .str (Str.ofString "write")]
  max : mg "max" = none
section
variable {P : Program} {w : World} {K : PySem.W.Frag} {mg : Str → Option Value} {base : Heap}
def spRest : Sp := fun vs H Q _ => ∃ b : Bool, vs = [.bl b] ∧ Q (.int (restL b)) H
theorem scRest : FnScope ["reads"] ["reads"] (defScope sRest) := ⟨rfl, rfl, rfl, by decide +kernel, rfl, by decide +kernel, by decide +kernel⟩
theorem pr_rest (D : Df K mg "resting" sRest ["reads"]) (G : Tk K mg) : Pr P w K mg base 1 "resting" ["reads"] spRest := by
  refine D.pr scRest (fun vs H Q E h => ?_) (fun f cdv A outer s H vs Q E hr h => ?_)
  · obtain ⟨b, rfl, _⟩ := h
    rfl
  · obtain ⟨b, rfl, q⟩ := h
    obtain ⟨_, g0⟩ := G.l0
    obtain ⟨_, g1⟩ := G.l1
    obtain ⟨_, g2⟩ := G.l2
    obtain ⟨_, g3⟩ := G.l3
    obtain ⟨_, g4⟩ := G.l4
    refine ⟨_, (pss_one (ps_ret (pe_ifExp (pt_val (pv 0)) (pe_gI rfl g1) (pe_gI rfl g0)))), ?_⟩
    refine ⟨_, rfl, _, rfl, ?_⟩
    cases b
    · exact iteF q
    · exact iteT q
def spOpen : Sp := fun vs H Q _ => ∃ (v : Wd) (l t : Int), vs = [.str (wS v), .int l, .int t] ∧ Q (oV (openL v l t)) H
theorem scOpen : FnScope ["step", "lock", "other"] ["step", "lock", "other"] (defScope sOpen) := ⟨rfl, rfl, rfl, by decide +kernel, rfl, by decide +kernel, by decide +kernel⟩
theorem pr_open (D : Df K mg "opened_lock" sOpen ["step", "lock", "other"]) (G : Tk K mg) : Pr P w K mg base 1 "opened_lock" ["step", "lock", "other"] spOpen := by
  refine D.pr scOpen (fun vs H Q E h => ?_) (fun f cdv A outer s H vs Q E hr h => ?_)
  · obtain ⟨v, l, t, rfl, _⟩ := h
    rfl
  · obtain ⟨v, l, t, rfl, q⟩ := h
    unfold openL at q
    obtain ⟨_, g0⟩ := G.l0
    obtain ⟨_, g1⟩ := G.l1
    obtain ⟨_, g2⟩ := G.l2
    obtain ⟨_, g3⟩ := G.l3
    obtain ⟨_, g4⟩ := G.l4
    refine ⟨_, (pss_cons (ps_if (pt_cmpR op_eq (pv 0) pe_str (nomark _))
        (pss_one (ps_ret (pv 1)))
        pss_nil)
      (pss_cons (ps_if (pt_cmpR op_eq (pv 0) pe_str (nomark _))
        (pss_one (ps_ret (pe_ifExp (pt_cmpR op_ge (pv 2) (pe_gI rfl g2) (nomark _)) pe_non (pe_gI rfl g2))))
        pss_nil)
      (pss_one (ps_ret (pe_ifExp (pt_cmpR op_ge (pv 2) (pe_gI rfl g1) (nomark _)) pe_non (pe_gI rfl g4)))))), ?_⟩
    refine ⟨_, rfl, rfl, _, rfl, ?_⟩
    refine ite2 (fun h1 => ?_) (fun h1 => ?_)
    · have e1 : v = .beg := of_decide_eq_true ((eqW v .beg).symm.trans h1)
      rw [if_pos e1] at q
      exact ⟨_, rfl, q⟩
    · have e1 : v ≠ .beg := fun z => h1 ((eqW v .beg).trans (decide_eq_true z))
      rw [if_neg e1] at q
      refine ⟨_, rfl, rfl, _, rfl, ?_⟩
      refine ite2 (fun h2 => ?_) (fun h2 => ?_)
      · have e2 : v = .imm := of_decide_eq_true ((eqW v .imm).symm.trans h2)
        rw [if_pos e2] at q
        refine ⟨_, rfl, _, _, rfl, rfl, _, rfl, ?_⟩
        refine ite2 (fun h3 => ?_) (fun h3 => ?_)
        · rw [if_pos (of_decide_eq_true h3)] at q
          exact q
        · rw [if_neg (fun z => h3 (decide_eq_true z))] at q
          exact q
      · have e2 : v ≠ .imm := fun z => h2 ((eqW v .imm).trans (decide_eq_true z))
        rw [if_neg e2] at q
        refine ⟨_, rfl, _, _, rfl, rfl, _, rfl, ?_⟩
        refine ite2 (fun h3 => ?_) (fun h3 => ?_)
        · rw [if_pos (of_decide_eq_true h3)] at q
          exact q
        · rw [if_neg (fun z => h3 (decide_eq_true z))] at q
          exact q
def spWork : Sp := fun vs H Q _ => ∃ (v : Wd) (a : Addr) (x : Row) (t : Int), vs = [.str (wS v), .ref a, .int t] ∧ H a = some (.tup (rowV x)) ∧ ∀ H', Same H H' → Q (oV (workL v x t)) H'
theorem scWork : FnScope ["step", "row", "other", "place", "opened", "reads", "lock"] ["step", "row", "other"] (defScope sWork) := ⟨rfl, rfl, rfl, by decide +kernel, rfl, by decide +kernel, by decide +kernel⟩
theorem pr_work (D : Df K mg "working_lock" sWork ["step", "row", "other"]) (G : Tk K mg) (PR : Pr P w K mg base 1 "resting" ["reads"] spRest) : Pr P w K mg base 2 "working_lock" ["step", "row", "other"] spWork := by
  refine D.pr scWork (fun vs H Q E h => ?_) (fun f cdv A outer s H vs Q E hr h => ?_)
  · obtain ⟨v, a, x, t, rfl, _⟩ := h
    rfl
  · obtain ⟨v, a, x, t, rfl, ha, k⟩ := h
    have nd := scWork.nd
    have hmax := G.max
    unfold workL at k
    obtain ⟨_, g0⟩ := G.l0
    obtain ⟨_, g1⟩ := G.l1
    obtain ⟨_, g2⟩ := G.l2
    obtain ⟨_, g3⟩ := G.l3
    obtain ⟨_, g4⟩ := G.l4
    refine ⟨_, (pss_cons (ps_asg (pv 1) (pg_tup rfl (pgs_cons (pg_name (i := 3) nd rfl (Or.inl rfl)) (pgs_cons (pg_name (i := 4) nd rfl (Or.inl rfl)) (pgs_cons (pg_name (i := 5) nd rfl (Or.inl rfl)) (pgs_cons (pg_name (i := 6) nd rfl (Or.inl rfl)) pgs_nil))))))
      (pss_cons (ps_if (pt_cmpR op_in_seq (pv 0) (pe_tup (pa_cons pe_str (pa_cons pe_str pa_nil))) (by rfl))
        (pss_cons (ps_if (PW.pt (pw_and (pt_cmpR op_eq (pv 6) (pe_gI rfl g0) (nomark _)) (pw_and1 (pt_cmpR op_ge (pv 2) (pe_gI rfl g3) (nomark _)))))
          (pss_one (ps_ret pe_non))
          pss_nil)
        (pss_cons (ps_if (pt_val (pv 4))
          (pss_one (ps_ret (pe_callB (call_max2 rfl) (by rfl) hmax (by decide +kernel) (pa_cons (pv 6) (pa_cons (pe_gI rfl g1) pa_nil)))))
          pss_nil)
        (pss_one (ps_ret (pe_callP PR hr (by rfl) (pa_cons (pe_or (pv 5) (pe_one (pe_cmpR op_eq (pv 0) pe_str (nomark _)))) pa_nil))))))
        pss_nil)
      (pss_cons (ps_if (PW.pt (pw_and (pt_cmpR op_lt (pv 6) (pe_gI rfl g2) (nomark _)) (pw_and1 (pt_cmpR op_ge (pv 2) (pe_gI rfl g2) (nomark _)))))
        (pss_one (ps_ret pe_non))
        pss_nil)
      (pss_cons (ps_if (pt_val (pv 4))
        (pss_one (ps_ret (pe_callB (call_max2 rfl) (by rfl) hmax (by decide +kernel) (pa_cons (pv 6) (pa_cons (pe_gI rfl g2) pa_nil)))))
        pss_nil)
      (pss_one (ps_ret (pe_ifExp (pt_cmpR op_ge (pv 2) (pe_gI rfl g1) (nomark _)) pe_non (pe_callP PR hr (by rfl) (pa_cons (pv 5) pa_nil))))))))), ?_⟩
    refine ⟨_, rfl, _, _, rfl, SqT.of ha, rfl, _, _, rfl, _, _, rfl, _, _, rfl, _, _, rfl, rfl, ?_⟩
    refine ⟨_, rfl, (by show 2 ≤ sizeLine; decide), fun tp htp => ?_⟩
    have q := k _ (same_new (o := .tup [.str (Str.ofString "read"), .str (Str.ofString "start")]) htp)
    refine ⟨_, _, rfl, .inr (SqT.of upd_same), rfl, rfl, _, rfl, ?_⟩
    refine ite2 (fun h1 => ?_) (fun h1 => ?_)
    · have e1 : isRs v = true := (in_rs v).symm.trans h1
      rw [if_pos e1] at q
      refine seq_if_tv (decide (x.l = 0 ∧ 3 ≤ t)) (fun K' kk => ?_) (fun hb => ?_) (fun hb => ?_)
      · refine ⟨_, rfl, rfl, _, rfl, ?_⟩
        refine ite2 (fun h2 => ?_) (fun h2 => ?_)
        · have e2 : x.l = 0 := V.int.inj (of_decide_eq_true h2)
          refine ⟨_, rfl, _, _, rfl, rfl, _, rfl, ?_⟩
          simpa [e2] using kk
        · have e2 : x.l ≠ 0 := fun z => h2 (decide_eq_true (congrArg V.int z))
          simpa [e2] using kk
      · rw [if_pos (of_decide_eq_true hb)] at q
        exact q
      · rw [if_neg (of_decide_eq_false hb)] at q
        refine ⟨_, rfl, _, rfl, ?_⟩
        refine ite2 (fun ho => ?_) (fun ho => ?_)
        · rw [if_pos ho] at q
          refine ⟨_, rfl, _, _, rfl, ?_⟩
          rw [max2]
          exact q
        · rw [if_neg ho] at q
          refine ⟨_, rfl, _, rfl, ?_⟩
          cases hx : x.r
          · refine iteF ⟨_, rfl, rfl, _, rfl, ?_⟩
            rw [hx] at q
            have e3 := eqW v .sta
            rw [Bool.false_or, ← e3] at q
            exact q
          · refine iteT ⟨_, rfl, ?_⟩
            rw [hx] at q
            exact q
    · have e1 : ¬ isRs v = true := fun z => h1 ((in_rs v).trans z)
      rw [if_neg e1] at q
      dsimp only [tNext]
      refine seq_if_tv (decide (x.l < 2 ∧ 2 ≤ t)) (fun K' kk => ?_) (fun hb => ?_) (fun hb => ?_)
      · refine ⟨_, rfl, _, _, rfl, rfl, _, rfl, ?_⟩
        refine ite2 (fun h2 => ?_) (fun h2 => ?_)
        · have e2 : x.l < 2 := of_decide_eq_true h2
          refine ⟨_, rfl, _, _, rfl, rfl, _, rfl, ?_⟩
          simpa [e2] using kk
        · have e2 : ¬ x.l < 2 := fun z => h2 (decide_eq_true z)
          simpa [e2] using kk
      · rw [if_pos (of_decide_eq_true hb)] at q
        exact q
      · rw [if_neg (of_decide_eq_false hb)] at q
        refine ⟨_, rfl, _, rfl, ?_⟩
        refine ite2 (fun ho => ?_) (fun ho => ?_)
        · rw [if_pos ho] at q
          refine ⟨_, rfl, _, _, rfl, ?_⟩
          rw [max2]
          exact q
        · rw [if_neg ho] at q
          refine ⟨_, rfl, _, _, rfl, rfl, _, rfl, ?_⟩
          refine ite2 (fun h3 => ?_) (fun h3 => ?_)
          · rw [if_pos (of_decide_eq_true h3)] at q
            exact q
          · rw [if_neg (fun z => h3 (decide_eq_true z))] at q
            exact ⟨_, rfl, _, rfl, q⟩
end
end C79

set_option Elab.async false
set_option maxRecDepth 100000
set_option maxHeartbeats 4000000
set_option linter.all false
namespace C79
open PySem L2 My M78
section
variable {P : Program} {w : World} {K : PySem.W.Frag} {mg : Str → Option Value} {base : Heap}
def spTried : Sp := fun vs H Q _ => ∃ (v : Wd) (a : Addr) (x : Row) (t : Int), vs = [.str (wS v), .ref a, .int t] ∧ H a = some (.tup (rowV x)) ∧
  ∀ (p q : Addr) (H' : Hp), H p = none → Same H H' → H' p = some (.tup [.ref q, .bl (triedM v x t).2]) → H' q = some (.tup (rowV (triedM v x t).1)) → (q = a ∨ H q = none) → Q (.ref p) H'
theorem scTried : FnScope ["step", "row", "other", "place", "opened", "reads", "lock", "after"] ["step", "row", "other"] (defScope sTried) := ⟨rfl, rfl, rfl, by decide +kernel, rfl, by decide +kernel, by decide +kernel⟩
theorem pr_tried (D : Df K mg "tried" sTried ["step", "row", "other"]) (G : Tk K mg) (PR : Pr P w K mg base 1 "resting" ["reads"] spRest) (PO : Pr P w K mg base 1 "opened_lock" ["step", "lock", "other"] spOpen) (PWk : Pr P w K mg base 2 "working_lock" ["step", "row", "other"] spWork) :
    Pr P w K mg base 3 "tried" ["step", "row", "other"] spTried := by
  refine D.pr scTried (fun vs H Q E h => ?_) (fun f cdv A outer s H vs Q E hr h => ?_)
  · obtain ⟨v, a, x, t, rfl, _⟩ := h
    rfl
  · obtain ⟨v, a, x, t, rfl, ha, k⟩ := h
    have nd := scTried.nd
    have hmax := G.max
    have hr1 := hr.mono (show 1 ≤ 2 by decide)
    obtain ⟨aO, gOp, sqO⟩ := G.op
    obtain ⟨_, g0⟩ := G.l0
    obtain ⟨_, g1⟩ := G.l1
    obtain ⟨_, g2⟩ := G.l2
    obtain ⟨_, g3⟩ := G.l3
    obtain ⟨_, g4⟩ := G.l4
    refine ⟨_, (pss_cons (ps_asg (pv 1) (pg_tup rfl (pgs_cons (pg_name (i := 3) nd rfl (Or.inl rfl)) (pgs_cons (pg_name (i := 4) nd rfl (Or.inl rfl)) (pgs_cons (pg_name (i := 5) nd rfl (Or.inl rfl)) (pgs_cons (pg_name (i := 6) nd rfl (Or.inl rfl)) pgs_nil))))))
      (pss_cons (ps_asg (pv 6) (pg_name (i := 7) nd rfl (Or.inl rfl)))
      (Evl.pss_cut (ps_if (pt_cmpR op_in_seq (pv 0) (pe_gR rfl gOp) (by rfl))
        (pss_cons (ps_asg (pe_callP PO hr1 (by rfl) (pa_cons (pv 0) (pa_cons (pv 6) (pa_cons (pv 2) pa_nil)))) (pg_name (i := 7) nd rfl (Or.inl rfl)))
        (pss_one (ps_asg pe_bl (pg_name (i := 4) nd rfl (Or.inl rfl)))))
        (pss_one (ps_if (pt_cmpR op_in_seq (pv 0) (pe_tup (pa_cons pe_str (pa_cons pe_str (pa_cons pe_str pa_nil)))) (by rfl))
          (pss_cons (ps_asg (pe_callP PWk hr (by rfl) (pa_cons (pv 0) (pa_cons (pv 1) (pa_cons (pv 2) pa_nil)))) (pg_name (i := 7) nd rfl (Or.inl rfl)))
          (pss_one (ps_asg (pe_or (pv 5) (pe_one (pe_cmpR op_eq (pv 0) pe_str (nomark _)))) (pg_name (i := 5) nd rfl (Or.inl rfl)))))
          (pss_one (ps_if (pt_cmpR op_eq (pv 0) pe_str (nomark _))
            (pss_cons (ps_asg pe_bl (pg_name (i := 5) nd rfl (Or.inl rfl)))
            (pss_one (ps_asg (pe_ifExp (pt_val (pv 4)) (pv 6) (pe_gI rfl g0)) (pg_name (i := 7) nd rfl (Or.inl rfl)))))
            (pss_one (ps_if (PW.pt (pw_and (pt_cmpR op_eq (pv 0) pe_str (nomark _)) (pw_and (pt_cmpR op_ge (pv 6) (pe_gI rfl g2) (nomark _)) (pw_and1 (pt_cmpR op_ge (pv 2) (pe_gI rfl g1) (nomark _))))))
              (pss_one (ps_ret (pe_tup (pa_cons (pe_tup (pa_cons (pv 3) (pa_cons (pv 4) (pa_cons (pv 5) (pa_cons (pe_callB (call_max2 rfl) (by rfl) hmax (by decide +kernel) (pa_cons (pv 6) (pa_cons (pe_gI rfl g3) pa_nil))) pa_nil))))) (pa_cons pe_bl pa_nil)))))
              (pss_cons (ps_asg pe_bl (pg_name (i := 4) nd rfl (Or.inl rfl)))
              (pss_one (ps_asg (pe_callP PR hr1 (by rfl) (pa_cons (pv 5) pa_nil)) (pg_name (i := 7) nd rfl (Or.inl rfl))))))))))))
      (pss_cons (ps_if (pt_cmpR op_isN (pv 7) pe_non (nomark _))
        (pss_one (ps_ret (pe_tup (pa_cons (pv 1) (pa_cons pe_bl pa_nil)))))
        pss_nil)
      (pss_one (ps_ret (pe_tup (pa_cons (pe_tup (pa_cons (pe_op op_add (pv 3) pe_int) (pa_cons (pv 4) (pa_cons (pv 5) (pa_cons (pv 7) pa_nil))))) (pa_cons pe_bl pa_nil))))))))), ?_⟩
    refine ⟨_, rfl, _, _, rfl, SqT.of ha, rfl, _, _, rfl, _, _, rfl, _, _, rfl, _, _, rfl, rfl, ?_⟩
    refine ⟨_, rfl, ?_⟩
    refine ⟨fun σ' H1 => Same H H1 ∧ ∃ (o r : Bool) (ol : Option Int), triedM v x t = endL x o r ol ∧ σ' = [some (.str (wS v)), some (.ref a), some (.int t), some (.int x.p), some (.bl o), some (.bl r), some (.int x.l), some (oV ol)], ?_, ?_⟩
    · refine ⟨_, rfl, _, _, rfl, .inr (sqO _), rfl, rfl, _, rfl, ?_⟩
      refine ite2 (fun h1 => ?_) (fun h1 => ?_)
      · have e1 : isOp v = true := (in_op v).symm.trans h1
        refine ⟨_, rfl, _, rfl, _, rfl, v, x.l, t, rfl, ?_⟩
        exact ⟨fun _ _ e => e, true, x.r, _, by unfold triedM; rw [if_pos e1], rfl⟩
      · have e1 : ¬ isOp v = true := fun z => h1 ((in_op v).trans z)
        refine ⟨_, rfl, (by show 3 ≤ sizeLine; decide), fun tp htp => ?_⟩
        have s1 := same_new (o := .tup [.str (Str.ofString "read"), .str (Str.ofString "start"), .str (Str.ofString "write")]) htp
        refine ⟨_, _, rfl, .inr (SqT.of upd_same), rfl, rfl, _, rfl, ?_⟩
        refine ite2 (fun h2 => ?_) (fun h2 => ?_)
        · have e2 : isRsw v = true := (in_rsw v).symm.trans h2
          refine ⟨_, rfl, _, rfl, _, rfl, v, a, x, t, rfl, s1 _ _ ha, fun H2 s2 => ?_⟩
          refine ⟨_, rfl, _, rfl, ?_⟩
          have e3 : triedM v x t = endL x x.o (x.r || decide (v = .sta)) (workL v x t) := by
            unfold triedM
            rw [if_neg e1, if_pos e2]
          cases hx : x.r
          · refine iteF ⟨_, rfl, rfl, ?_⟩
            rw [hx, Bool.false_or, ← eqW v .sta] at e3
            exact ⟨Same.tr s1 s2, x.o, _, _, e3, rfl⟩
          · rw [hx, Bool.true_or] at e3
            exact iteT ⟨Same.tr s1 s2, x.o, true, _, e3, rfl⟩
        · have e2 : ¬ isRsw v = true := fun z => h2 ((in_rsw v).trans z)
          refine ⟨_, rfl, rfl, _, rfl, ?_⟩
          refine ite2 (fun h3 => ?_) (fun h3 => ?_)
          · have e3 : v = .sto := of_decide_eq_true ((eqW v .sto).symm.trans h3)
            have e4 : triedM v x t = endL x x.o false (some (if x.o = true then x.l else 0)) := by
              unfold triedM
              rw [if_neg e1, if_neg e2, if_pos e3]
            refine ⟨_, rfl, _, rfl, ?_⟩
            refine ite2 (fun ho => ?_) (fun ho => ?_)
            · rw [if_pos ho] at e4
              exact ⟨_, rfl, s1, x.o, false, _, e4, rfl⟩
            · rw [if_neg ho] at e4
              exact ⟨s1, x.o, false, _, e4, rfl⟩
          · have e3 : v ≠ .sto := fun z => h3 ((eqW v .sto).trans (decide_eq_true z))
            refine if_tv (decide (v = .com ∧ 2 ≤ x.l ∧ 1 ≤ t)) (fun K' kk => ?_) (fun hb => ?_) (fun hb => ?_)
            · refine ⟨_, rfl, rfl, _, rfl, ?_⟩
              refine ite2 (fun h4 => ?_) (fun h4 => ?_)
              · have e4 : v = .com := of_decide_eq_true ((eqW v .com).symm.trans h4)
                refine ⟨_, rfl, _, _, rfl, rfl, _, rfl, ?_⟩
                refine ite2 (fun h5 => ?_) (fun h5 => ?_)
                · have e5 : 2 ≤ x.l := of_decide_eq_true h5
                  refine ⟨_, rfl, _, _, rfl, rfl, _, rfl, ?_⟩
                  simpa [e4, e5] using kk
                · have e5 : ¬ 2 ≤ x.l := fun z => h5 (decide_eq_true z)
                  simpa [e4, e5] using kk
              · have e4 : v ≠ .com := fun z => h4 ((eqW v .com).trans (decide_eq_true z))
                simpa [e4] using kk
            · have e4 : triedM v x t = (⟨x.p, x.o, x.r, max x.l 3⟩, true) := by
                unfold triedM
                rw [if_neg e1, if_neg e2, if_neg e3, if_pos (of_decide_eq_true hb)]
              rw [e4] at k
              refine ⟨_, rfl, _, rfl, _, rfl, _, rfl, _, _, rfl, (by show 4 ≤ sizeLine; decide), fun q hq => ⟨(by show 2 ≤ sizeLine; decide), fun p hp => ?_⟩⟩
              rw [max2] at hp ⊢
              have sq := same_new (o := .tup [.int x.p, .bl x.o, .bl x.r, .int (max x.l 3)]) hq
              have npq : q ≠ p := fun z => by
                rw [← z, upd_same] at hp
                cases hp
              refine k p q _ (Same.free (Same.tr s1 sq) hp) (Same.tr (Same.tr s1 sq) (same_new hp)) upd_same (Eq.trans (upd_ne npq) upd_same) (.inr (Same.free s1 hq))
            · have e4 : triedM v x t = endL x false x.r (some (restL x.r)) := by
                unfold triedM
                rw [if_neg e1, if_neg e2, if_neg e3, if_neg (of_decide_eq_false hb)]
              exact ⟨_, rfl, _, rfl, s1, false, x.r, _, e4, rfl⟩
    · rintro σ' H1 ⟨s1, o, r, ol, e, rfl⟩
      rw [e] at k
      refine ⟨_, rfl, rfl, _, rfl, ?_⟩
      cases ol with
      | none =>
        refine iteT ⟨_, rfl, (by show 2 ≤ sizeLine; decide), fun p hp => ?_⟩
        have npa : a ≠ p := ne_of_none (s1 _ _ ha) hp
        exact k p a _ (Same.free s1 hp) (Same.tr s1 (same_new hp)) upd_same (Eq.trans (upd_ne npa) (s1 _ _ ha)) (.inl rfl)
      | some l =>
        refine iteF ⟨_, rfl, _, _, rfl, rfl, _, rfl, _, rfl, _, rfl, (by show 4 ≤ sizeLine; decide), fun q hq => ⟨(by show 2 ≤ sizeLine; decide), fun p hp => ?_⟩⟩
        have sq := same_new (o := .tup (rowV ⟨x.p + 1, o, r, l⟩)) hq
        have npq : q ≠ p := fun z => by
          rw [← z, upd_same] at hp
          cases hp
        exact k p q _ (Same.free (Same.tr s1 sq) hp) (Same.tr (Same.tr s1 sq) (same_new hp)) upd_same (Eq.trans (upd_ne npq) upd_same) (.inr (Same.free s1 hq))
end
end C79

set_option Elab.async false
set_option maxRecDepth 100000
set_option maxHeartbeats 4000000
set_option linter.all false
namespace C79
open PySem L2 My M78
abbrev sMoved : Stmt := top 21
section
variable {P : Program} {w : World} {K : PySem.W.Frag} {mg : Str → Option Value} {base : Heap}
abbrev nMoved : List Str := ["scripts", "state", "at", "row", "other", "refused", "k"]
theorem scMoved : FnScope nMoved ["scripts", "state", "at"] (defScope sMoved) := ⟨rfl, rfl, rfl, by decide +kernel, rfl, by decide +kernel, by decide +kernel⟩
theorem othL_succ (xs : List Row) (j n : Nat) : othL xs j (n + 1) = othL xs j n ++ (if n = j then [] else match xs[n]? with | some x => [x.l] | none => []) := rfl
/-- one step of script number j -/
def spMoved : Sp := fun vs H Q _ => ∃ (m A B : Addr) (o : HO) (ss : List (List Wd)) (xs : List Row) (j p : Nat) (sc : List Wd) (x : Row) (v : Wd), H m = some o ∧ vs = [.ref A, .ref B, .int j] ∧ At m H (.ref A) (scD ss) ∧ At m H (.ref B) (stD xs) ∧
  xs.length ≤ 1000 ∧ ss[j]? = some sc ∧ xs[j]? = some x ∧ x.p = (p : Int) ∧ sc[p]? = some v ∧
  ∀ (q : Addr) (H' : Hp), H q = none → Same H H' → At m H' (.ref q) (.tuple [stD (xs.set j (triedM v x (topM xs j)).1), .bool (triedM v x (topM xs j)).2]) → Q (.ref q) H'
theorem pr_moved (D : Df K mg "moved" sMoved ["scripts", "state", "at"]) (T : Tx mg) (G : Tk K mg) (PTr : Pr P w K mg base 3 "tried" ["step", "row", "other"] spTried) : Pr P w K mg base 4 "moved" ["scripts", "state", "at"] spMoved := by
  refine D.pr scMoved (fun vs H Q E h => ?_) (fun f cdv A outer s H vs Q E hr h => ?_)
  · obtain ⟨m, A, B, o, ss, xs, j, p, sc, x, v, hm, rfl, _⟩ := h
    rfl
  · obtain ⟨m, A, B, o, ss, xs, j, p, sc, x, v, hm, rfl, hA, hB, hlen, hsc, hx, hp, hv, k⟩ := h
    have nd := scMoved.nd
    obtain ⟨_, g0⟩ := G.l0
    obtain ⟨_, g1⟩ := G.l1
    obtain ⟨_, g2⟩ := G.l2
    obtain ⟨_, g3⟩ := G.l3
    obtain ⟨_, g4⟩ := G.l4
    refine ⟨_, (pss_cons (ps_asg (pe_callBK (cr_maxD rfl hr.units) (by rfl) G.max (by decide +kernel) (pa_cons (pe_lc (own := [("k", 6), ("row", 3)]) (g := gTup K 2 (gCons (gName 6) (gCons (gName 3) gNil))) (te := tOp (rIxT K) (tVar 3) (tC (.int 3))) (by rfl) nd (pi_enumT (by rfl) T.enumerate (pa_cons (pv 1) pa_nil))
  (blkOk_by (own := [("k", 6), ("row", 3)]) (N := nMoved) (sc := defScope sMoved) (by decide +kernel))
  (fun _ _ _ _ _ => pg_tup rfl (pgs_cons (pg_name (i := 6) nd rfl (Or.inl rfl) (Or.inr rfl)) (pgs_cons (pg_name (i := 3) nd rfl (Or.inl rfl) (Or.inr rfl)) pgs_nil))) (fun _ _ _ _ _ => pts_one (pt_cmpR op_ne (pv 6) (pv 2) (nomark _)))
  (fun _ _ _ _ _ => (pe_ix ix_tup (pv 3) pe_int (fun _ _ => rfl)))) pa_nil) (pk_cons (pe_gI rfl g0) pk_nil)) (pg_name (i := 4) nd rfl (Or.inl rfl)))
      (pss_cons (ps_asg (pe_callP PTr hr (by rfl) (pa_cons (pe_ix ix_tup (pe_ix ix_tup (pv 0) (pv 2) (fun _ _ => rfl)) (pe_ix ix_tup (pe_ix ix_tup (pv 1) (pv 2) (fun _ _ => rfl)) pe_int (fun _ _ => rfl)) (fun _ _ => rfl)) (pa_cons (pe_ix ix_tup (pv 1) (pv 2) (fun _ _ => rfl)) (pa_cons (pv 4) pa_nil)))) (pg_tup rfl (pgs_cons (pg_name (i := 3) nd rfl (Or.inl rfl)) (pgs_cons (pg_name (i := 5) nd rfl (Or.inl rfl)) pgs_nil))))
      (pss_one (ps_ret (pe_tup (pa_cons (pe_op op_catA (pe_op op_catA (pe_slice sl_tupA (pv 1) po_none (po_some (pv 2))) (pe_tup (pa_cons (pv 3) pa_nil))) (pe_slice sl_tupA (pv 1) (po_some (pe_op op_add (pv 2) pe_int)) po_none)) (pa_cons (pv 5) pa_nil))))))), ?_⟩
    obtain ⟨_, ua, ea, nA, hA1, aA⟩ := at_tup hA
    cases ea
    obtain ⟨_, ub, eb, nB, hB1, aB⟩ := at_tup hB
    cases eb
    have lub : ub.length = xs.length := by
      rw [aB.length, List.length_map]
    have hj : j < xs.length := (List.getElem?_eq_some_iff.mp hx).1
    -- other = max(..)
    refine ⟨_, rfl, _, _, rfl, SqT.of hB1, fun Dl hD => ?_⟩
    refine lc_it (walk_enumT (xs := ub)) (fun i H2 => Same H H2 ∧ H2 Dl = some (.lst ((othL xs j i).map V.int))) ?_ ?_ ?_ ?_
    · exact ⟨same_new hD, upd_same⟩
    · exact fun i H2 _ q => SqT.of (q.1 _ _ hB1)
    · rintro i y H2 H3 hi ⟨sm, hl⟩ ⟨T2, i', vr, rfl, hT2, rfl, ei, er⟩
      obtain rfl : V.int (i : Nat) = i' := Option.some.inj ei
      have hix : i < xs.length := by omega
      obtain ⟨dr, e1, ar⟩ := aB.get er
      rw [List.getElem?_map, List.getElem?_eq_getElem hix] at e1
      cases e1
      obtain ⟨R, rfl, nR, hR⟩ := row_of ar
      have sT : Same H (upd H2 T2 (.tup [.int (i : Nat), .ref R])) := Same.tr sm (same_new hT2)
      have nDT : Dl ≠ T2 := ne_of_none hl hT2
      have hl3 : (upd H2 T2 (.tup [.int (i : Nat), .ref R])) Dl = some (.lst ((othL xs j i).map V.int)) := by
        rw [upd_ne nDT]
        exact hl
      refine ⟨_, _, rfl, SqT.of upd_same, rfl, _, _, rfl, _, _, rfl, rfl, rfl, ?_⟩
      refine ⟨_, rfl, _, rfl, rfl, _, rfl, ?_⟩
      by_cases hij : i = j
      · rw [decide_eq_true (show V.int ((i : Nat) : Int) = V.int ((j : Nat) : Int) by rw [hij])]
        refine iteF ⟨sT, ?_⟩
        rw [hl3, othL_succ, if_pos hij, List.append_nil]
      · rw [decide_eq_false (show ¬ V.int ((i : Nat) : Int) = V.int ((j : Nat) : Int) from fun z => hij (by have := V.int.inj z; omega))]
        refine iteT ⟨_, rfl, R, _, _, _, rfl, rfl, SqT.of (sT _ _ hR), rfl, _, hl3, ?_, ?_, ?_⟩
        · rw [List.length_map]
          have := othL_len xs j i
          exact small6 (by omega)
        · intro b u e
          rw [upd_ne (ne_of_none e hD)]
          exact sT _ _ e
        · rw [upd_same, othL_succ, if_neg hij, List.getElem?_eq_getElem hix, List.map_append]
          rfl
    · rintro H2 ⟨s2, hl⟩
      refine ⟨_, _, _, rfl, rfl, SqL.of hl, ?_⟩
      rw [lub]
      -- row, refused = tried(..)
      obtain ⟨vsc, es1, asc⟩ := all_get (i := j) (d := .tuple (sc.map fun v => .str (wS v))) aA (by rw [List.getElem?_map, hsc]; rfl)
      obtain ⟨aS, us, rfl, nS, hS, aS2⟩ := at_tup asc
      obtain ⟨vv, ev1, av⟩ := all_get (i := p) (d := .str (wS v)) aS2 (by rw [List.getElem?_map, hv]; rfl)
      cases av
      obtain ⟨vR, er1, aR⟩ := all_get (i := j) (d := rowD x) aB (by rw [List.getElem?_map, hx]; rfl)
      obtain ⟨R, rfl, nR, hR⟩ := row_of aR
      have hp2 : rowV x = [.int (p : Int), .bl x.o, .bl x.r, .int x.l] := by
        unfold rowV
        rw [hp]
      have hR2 : H2 R = some (.tup [.int (p : Int), .bl x.o, .bl x.r, .int x.l]) := by
        rw [← hp2]
        exact s2 _ _ hR
      refine ⟨_, rfl, _, rfl, _, _, _, _, rfl, rfl, SqT.of (s2 _ _ hA1), atI_nat es1, ?_⟩
      refine ⟨_, rfl, _, rfl, _, _, _, _, rfl, rfl, SqT.of (s2 _ _ hB1), atI_nat er1, ?_⟩
      refine ⟨_, _, _, _, rfl, rfl, SqT.of hR2, rfl, ?_⟩
      refine ⟨_, _, _, _, rfl, rfl, SqT.of (s2 _ _ hS), atI_nat ev1, ?_⟩
      refine ⟨_, rfl, _, rfl, _, _, _, _, rfl, rfl, SqT.of (s2 _ _ hB1), atI_nat er1, ?_⟩
      refine ⟨_, rfl, v, R, x, _, rfl, s2 _ _ hR, fun pt q H3 npt s3 hpt hq hqo => ?_⟩
      refine ⟨_, _, rfl, SqT.of hpt, rfl, _, _, rfl, _, _, rfl, rfl, ?_⟩
      have sm3 : Same H H3 := Same.tr s2 s3
      have nq : q ≠ m := by
        rcases hqo with rfl | h
        · exact nR
        · exact fun z => by
            rw [z, s2 _ _ hm] at h
            cases h
      -- state[:at]
      have hB3 := sm3 _ _ hB1
      have w1 : ¬ (HT.sIx ub.length 0 none = 0 ∧ HT.sIx ub.length ub.length (some (j : Int)) = ub.length) := fun z => by
        have := z.2
        rw [HT.sIx_nat] at this
        omega
      refine ⟨_, rfl, _, rfl, _, rfl, _, _, rfl, SqT.of hB3, fun z => absurd z w1, fun _ p1 hp1 => ?_⟩
      have c1 : cutV ub none (some (j : Int)) = ub.take j := by
        show (ub.drop 0).take (HT.sIx ub.length ub.length (some (j : Int)) - 0) = _
        rw [HT.sIx_nat, List.drop_zero, Nat.sub_zero, Nat.min_eq_left (by omega)]
      rw [c1]
      have s4 := Same.tr sm3 (same_new (o := .tup (ub.take j)) hp1)
      refine ⟨_, rfl, (by show 1 ≤ sizeLine; decide), fun p2 hp2 => ?_⟩
      have s5 := same_new (o := .tup [.ref q]) hp2
      have hm4 := s4 _ _ hm
      have n1 : p1 ≠ m := fun z => by
        rw [z, sm3 _ _ hm] at hp1
        cases hp1
      have n2 : p2 ≠ m := fun z => by
        rw [z, hm4] at hp2
        cases hp2
      show rCatA K _ _ _ _
      refine cat_any (m := m) (a := p1) (b := p2) (s5 _ _ upd_same) upd_same n1 n2 (s5 _ _ hm4) (by rw [List.length_take]; show _ + 1 ≤ _; exact Nat.le_of_lt (small6 (by omega))) (fun p3 H5 n3 s6 h3 => ?_)
      have sm6 : Same H H5 := Same.tr (Same.tr s4 s5) s6
      have hB5 := sm6 _ _ hB1
      have w2 : ¬ (HT.sIx ub.length 0 (some ((j + 1 : Nat) : Int)) = 0 ∧ HT.sIx ub.length ub.length none = ub.length) := fun z => by
        have := z.1
        rw [HT.sIx_nat] at this
        omega
      refine ⟨_, rfl, _, rfl, _, _, rfl, rfl, _, rfl, _, _, rfl, SqT.of hB5, fun z => absurd z w2, fun _ p4 hp4 => ?_⟩
      have c2 : cutV ub (some ((j : Int) + 1)) none = ub.drop (j + 1) := by
        show (ub.drop (HT.sIx ub.length 0 (some ((j + 1 : Nat) : Int)))).take (ub.length - HT.sIx ub.length 0 (some ((j + 1 : Nat) : Int))) = _
        rw [HT.sIx_nat, Nat.min_eq_left (by omega), List.take_of_length_le (by rw [List.length_drop]; omega)]
      rw [c2]
      have s7 := same_new (o := .tup (ub.drop (j + 1))) hp4
      have n4 : p4 ≠ m := fun z => by
        rw [z, sm6 _ _ hm] at hp4
        cases hp4
      show rCatA K _ _ _ _
      refine cat_any (m := m) (a := p3) (b := p4) (s7 _ _ h3) upd_same n3 n4 (s7 _ _ (sm6 _ _ hm)) (by rw [List.length_append, List.length_take, List.length_drop]; show _ + 1 + _ ≤ _; exact Nat.le_of_lt (small6 (by omega))) (fun p5 H6 n5 s8 h5 => ?_)
      have sm8 : Same H H6 := Same.tr (Same.tr sm6 s7) s8
      refine ⟨_, rfl, (by show 2 ≤ sizeLine; decide), fun p6 hp6 => ?_⟩
      have s9 := same_new (o := .tup [.ref p5, .bl (triedM v x (topM xs j)).2]) hp6
      have smAll : Same H _ := Same.tr sm8 s9
      have n6 : p6 ≠ m := fun z => by
        rw [z, sm8 _ _ hm] at hp6
        cases hp6
      refine k p6 _ (Same.free sm8 hp6) smAll (.tup n6 upd_same (.cons ?_ (.cons (.bl _) .nil)))
      refine .tup n5 (s9 _ _ h5) ?_
      have hq6 : H6 q = some (.tup (rowV (triedM v x (topM xs j)).1)) := s8 _ _ (s7 _ _ (s6 _ _ (s5 _ _ (same_new hp1 _ _ hq))))
      have aB6 := aB.mono (Same.but (m := m) smAll)
      have e9 : (xs.set j (triedM v x (topM xs j)).1).map rowD = ((xs.map rowD).take j ++ [rowD (triedM v x (topM xs j)).1]) ++ (xs.map rowD).drop (j + 1) := by
        rw [List.set_eq_take_append_cons_drop, if_pos hj, List.map_append, List.map_cons, List.map_take, List.map_drop, List.append_assoc]
        rfl
      rw [e9]
      exact all_app (all_app (all_take j aB6) (.cons (row_at nq (s9 _ _ hq6)) .nil)) (all_drop (j + 1) aB6)
end
end C79

set_option Elab.async false
set_option maxRecDepth 100000
set_option maxHeartbeats 4000000
set_option linter.all false
namespace C79
open PySem L2 My M78
abbrev sWait : Stmt := top 22
def waitL (ss : List (List Wd)) (xs : List Row) : Nat → List Nat
  | 0 => []
  | n + 1 => waitL ss xs n ++ (match ss[n]?, xs[n]? with | some s, some x => (if x.p < (s.length : Int) then [n] else []) | _, _ => [])
theorem waitL_len (ss : List (List Wd)) (xs : List Row) : ∀ n, (waitL ss xs n).length ≤ n
  | 0 => Nat.le_refl _
  | n + 1 => by
    have := waitL_len ss xs n
    unfold waitL
    rw [List.length_append]
    split
    · split <;> simp <;> omega
    · simp
      omega
section
variable {P : Program} {w : World} {K : PySem.W.Frag} {mg : Str → Option Value} {base : Heap}
abbrev nWait : List Str := ["scripts", "state", "at", "row"]
theorem scWait : FnScope nWait ["scripts", "state"] (defScope sWait) := ⟨rfl, rfl, rfl, by decide +kernel, rfl, by decide +kernel, by decide +kernel⟩
/-- the scripts that have steps left -/
def spWait : Sp := fun vs H Q _ => ∃ (m A B : Addr) (ss : List (List Wd)) (xs : List Row), vs = [.ref A, .ref B] ∧ At m H (.ref A) (scD ss) ∧ At m H (.ref B) (stD xs) ∧
  ss.length = xs.length ∧ xs.length ≤ 1000 ∧
  ∀ (q : Addr) (H' : Hp), H q = none → Same H H' → H' q = some (.lst ((waitL ss xs xs.length).map fun k : Nat => V.int (k : Int))) → Q (.ref q) H'
theorem pr_wait (D : Df K mg "waiting_ones" sWait ["scripts", "state"]) (T : Tx mg) : Pr P w K mg base 4 "waiting_ones" ["scripts", "state"] spWait := by
  refine D.pr scWait (fun vs H Q E h => ?_) (fun f cdv A outer s H vs Q E hr h => ?_)
  · obtain ⟨m, A, B, ss, xs, rfl, _⟩ := h
    rfl
  · obtain ⟨m, A, B, ss, xs, rfl, hA, hB, hle, hlen, k⟩ := h
    have nd := scWait.nd
    refine ⟨_, (pss_one (ps_ret (pe_lc (own := [("at", 2), ("row", 3)]) (g := gTup K 2 (gCons (gName 2) (gCons (gName 3) gNil))) (tt := tTest (tOp (rI0 fun i j => .bl (decide (i < j))) (tOp (rIxT K) (tVar 3) (tC (.int 0))) (tCB (fun xs H Q => ∃ x n, xs = [x] ∧ LenV K x H n ∧ Q (.int n) H) (tCons (tOp (rIxT K) (tVar 0) (tVar 2)) tNil)))) (by rfl) nd (pi_enumT (by rfl) T.enumerate (pa_cons (pv 1) pa_nil))
  (blkOk_by (own := [("at", 2), ("row", 3)]) (N := nWait) (sc := defScope sWait) (by decide +kernel))
  (fun _ _ _ _ _ => pg_tup rfl (pgs_cons (pg_name (i := 2) nd rfl (Or.inl rfl) (Or.inr rfl)) (pgs_cons (pg_name (i := 3) nd rfl (Or.inl rfl) (Or.inr rfl)) pgs_nil))) (fun _ _ _ _ _ => pts_one (pt_cmpR op_lt (pe_ix ix_tup (pv 3) pe_int (fun _ _ => rfl)) (pe_callB call_len (by rfl) T.len PySem.boot_len (pa_cons (pe_ix ix_tup (pv 0) (pv 2) (fun _ _ => rfl)) pa_nil)) (nomark _)))
  (fun _ _ _ _ _ => (pv 2))))), ?_⟩
    obtain ⟨_, ua, ea, nA, hA1, aA⟩ := at_tup hA
    cases ea
    obtain ⟨_, ub, eb, nB, hB1, aB⟩ := at_tup hB
    cases eb
    have lub : ub.length = xs.length := by
      rw [aB.length, List.length_map]
    refine ⟨_, rfl, _, _, rfl, SqT.of hB1, fun Dl hD => ?_⟩
    refine lc_it (walk_enumT (xs := ub)) (fun i H2 => Same H H2 ∧ H2 Dl = some (.lst ((waitL ss xs i).map fun k : Nat => V.int (k : Int)))) ?_ ?_ ?_ ?_
    · exact ⟨same_new hD, upd_same⟩
    · exact fun i H2 _ q => SqT.of (q.1 _ _ hB1)
    · rintro i y H2 H3 hi ⟨sm, hl⟩ ⟨T2, i', vr, rfl, hT2, rfl, ei, er⟩
      obtain rfl : V.int (i : Nat) = i' := Option.some.inj ei
      have hix : i < xs.length := by omega
      have his : i < ss.length := by omega
      obtain ⟨dr, e1, ar⟩ := aB.get er
      rw [List.getElem?_map, List.getElem?_eq_getElem hix] at e1
      cases e1
      obtain ⟨R, rfl, nR, hR⟩ := row_of ar
      obtain ⟨vsc, es1, asc⟩ := all_get (i := i) (d := .tuple (ss[i].map fun v => .str (wS v))) aA (by rw [List.getElem?_map, List.getElem?_eq_getElem his]; rfl)
      obtain ⟨aS, us, rfl, nS, hS, aS2⟩ := at_tup asc
      have lus : us.length = ss[i].length := by
        rw [aS2.length, List.length_map]
      have sT : Same H (upd H2 T2 (.tup [.int (i : Nat), .ref R])) := Same.tr sm (same_new hT2)
      have nDT : Dl ≠ T2 := ne_of_none hl hT2
      have hl3 : (upd H2 T2 (.tup [.int (i : Nat), .ref R])) Dl = some (.lst ((waitL ss xs i).map fun k : Nat => V.int (k : Int))) := by
        rw [upd_ne nDT]
        exact hl
      have hw : waitL ss xs (i + 1) = waitL ss xs i ++ (if xs[i].p < (ss[i].length : Int) then [i] else []) := by
        show waitL ss xs i ++ (match ss[i]?, xs[i]? with | some s, some x => (if x.p < (s.length : Int) then [i] else []) | _, _ => []) = _
        rw [List.getElem?_eq_getElem hix, List.getElem?_eq_getElem his]
      refine ⟨_, _, rfl, SqT.of upd_same, rfl, _, _, rfl, _, _, rfl, rfl, rfl, ?_⟩
      refine ⟨_, rfl, _, _, _, _, rfl, rfl, SqT.of (sT _ _ hR), rfl, ?_⟩
      refine ⟨_, rfl, _, rfl, _, _, _, _, rfl, rfl, SqT.of (sT _ _ hA1), atI_nat es1, ?_⟩
      refine ⟨_, _, rfl, (Or.inr ⟨_, SqT.of (sT _ _ hS), rfl⟩), ?_⟩
      refine ⟨_, _, rfl, rfl, _, rfl, ?_⟩
      rw [lus]
      by_cases hij : xs[i].p < (ss[i].length : Int)
      · rw [decide_eq_true hij]
        refine iteT ⟨_, rfl, _, hl3, ?_, ?_, ?_⟩
        · rw [List.length_map]
          have := waitL_len ss xs i
          exact small6 (by omega)
        · intro b u e
          rw [upd_ne (ne_of_none e hD)]
          exact sT _ _ e
        · rw [upd_same, hw, if_pos hij, List.map_append]
          rfl
      · rw [decide_eq_false hij]
        refine iteF ⟨sT, ?_⟩
        rw [hl3, hw, if_neg hij, List.append_nil]
    · rintro H2 ⟨s2, hl⟩
      rw [lub] at hl
      exact k _ _ hD s2 hl
end
end C79

set_option Elab.async false
set_option maxRecDepth 100000
set_option maxHeartbeats 4000000
set_option linter.all false
namespace C79
open PySem L2 My M78
abbrev sIsList : Stmt := top 13
abbrev sNum : Stmt := top 28
section
variable {P : Program} {w : World} {K : PySem.W.Frag} {mg : Str → Option Value} {base : Heap}
abbrev nIsList : List Str := ["thing"]
theorem scIsList : FnScope nIsList ["thing"] (defScope sIsList) := ⟨rfl, rfl, rfl, by decide +kernel, rfl, by decide +kernel, by decide +kernel⟩
def lt2 : PyData → Bool
  | .list _ => true
  | .tuple _ => true
  | _ => false
/-- a list or a tuple -/
def spIsList : Sp := fun vs H Q _ => ∃ (m : Addr) (o : HO) (x : V) (d : PyData), H m = some o ∧ vs = [x] ∧ At m H x d ∧ ∀ H', Same H H' → Q (.bl (lt2 d)) H'
theorem pr_isList (D : Df K mg "is_list" sIsList ["thing"]) (T : Ty mg) : Pr P w K mg base 1 "is_list" ["thing"] spIsList := by
  refine D.pr scIsList (fun vs H Q E h => ?_) (fun f cdv A outer s H vs Q E hr h => ?_)
  · obtain ⟨m, o, x, d, hm, rfl, _⟩ := h
    rfl
  · obtain ⟨m, o, x, d, hm, rfl, ha, k⟩ := h
    have nd := scIsList.nd
    refine ⟨_, (pss_one (ps_ret (pe_callB call_isiT (by rfl) T.isinstance (by decide +kernel) (pa_cons (pv 0) (pa_cons (pe_tup (pa_cons (pe_bltn (v := .ty "list") (by rfl) T.list (by decide +kernel) rfl) (pa_cons (pe_bltn (v := .ty "tuple") (by rfl) T.tuple (by decide +kernel) rfl) pa_nil))) pa_nil))))), ?_⟩
    refine ⟨_, rfl, (by show 2 ≤ sizeLine; decide), fun tp htp => ?_⟩
    have sm := same_new (o := .tup [.ty "list", .ty "tuple"]) htp
    have ha2 := ha.mono (Same.but (m := m) sm)
    refine ⟨_, _, _, _, _, lt2 d, rfl, upd_same, cls_all ["list", "tuple"], ha2.ty, kit_any ?_, ?_⟩
    · cases ha
      · exact k_NoneType_lt
      · exact k_bool_lt
      · exact k_int_lt
      · exact k_str_lt
      · exact k_list_lt
      · exact k_tuple_lt
    · exact k _ sm
abbrev nNum : List Str := ["thing", "many"]
theorem scNum : FnScope nNum ["thing", "many"] (defScope sNum) := ⟨rfl, rfl, rfl, by decide +kernel, rfl, by decide +kernel, by decide +kernel⟩
/-- a number below many -/
def spNum : Sp := fun vs H Q _ => ∃ (x : V) (n : Int), vs = [x, .int n] ∧ ((∃ i, x = .int i ∧ Q (.bl (decide (0 ≤ i ∧ i < n))) H) ∨ (∃ b, x = .bl b ∧ Q (.bl false) H) ∨ (∃ T, (∀ K, TyX K H x (.type T)) ∧ kitB T "int" = some false ∧ Q (.bl false) H))
theorem pr_num (D : Df K mg "is_number" sNum ["thing", "many"]) (T : Ty mg) : Pr P w K mg base 1 "is_number" ["thing", "many"] spNum := by
  refine D.pr scNum (fun vs H Q E h => ?_) (fun f cdv A outer s H vs Q E hr h => ?_)
  · obtain ⟨x, n, rfl, _⟩ := h
    rfl
  · obtain ⟨x, n, rfl, h⟩ := h
    have nd := scNum.nd
    refine ⟨_, (pss_one (ps_ret (pe_and (pe_callB call_isi (by rfl) T.isinstance (by decide +kernel) (pa_cons (pv 0) (pa_cons (pe_bltn (v := .ty "int") (by rfl) T.int (by decide +kernel) rfl) pa_nil))) (pe_and (pe_not (pe_callB call_isi (by rfl) T.isinstance (by decide +kernel) (pa_cons (pv 0) (pa_cons (pe_bltn (v := .ty "bool") (by rfl) T.bool (by decide +kernel) rfl) pa_nil)))) (pe_one (pe_chain op_le op_lt pe_int (pv 0) (pv 1))))))), ?_⟩
    rcases h with ⟨i, rfl, q⟩ | ⟨b, rfl, q⟩ | ⟨T9, ty, kn, q⟩
    · refine ⟨_, rfl, _, _, _, _, true, rfl, .ty "int", .base (.int i), kit_ty k_int_int, ?_⟩
      refine ⟨_, rfl, iteT ?_⟩
      refine ⟨_, rfl, _, _, _, _, false, rfl, .ty "bool", .base (.int i), kit_ty k_int_bool, ?_⟩
      refine ⟨_, rfl, _, rfl, iteT ?_⟩
      refine ⟨_, rfl, _, _, rfl, rfl, _, rfl, ?_⟩
      by_cases h1 : (0 : Int) ≤ i
      · rw [decide_eq_true h1]
        refine iteT ⟨_, rfl, _, _, rfl, rfl, ?_⟩
        rw [show decide (0 ≤ i ∧ i < n) = decide (i < n) from by simp [h1]] at q
        exact q
      · rw [decide_eq_false h1]
        refine iteF ?_
        rw [show decide (0 ≤ i ∧ i < n) = false from by simp [h1]] at q
        exact q
    · refine ⟨_, rfl, _, _, _, _, true, rfl, .ty "int", .base (.bl b), kit_ty k_bool_int, ?_⟩
      refine ⟨_, rfl, iteT ?_⟩
      refine ⟨_, rfl, _, _, _, _, true, rfl, .ty "bool", .base (.bl b), kit_ty k_bool_bool, ?_⟩
      exact ⟨_, rfl, _, rfl, iteF q⟩
    · refine ⟨_, rfl, _, _, _, _, false, rfl, .ty "int", ty _, kit_ty kn, ?_⟩
      exact ⟨_, rfl, iteF q⟩
end
end C79

set_option Elab.async false
set_option maxRecDepth 100000
set_option linter.all false
/-! Iterating a list or a tuple, whichever it is. -/
namespace My
open PySem L2
section
variable {X : Cx} {tg e : Expr}
theorem pi_or {wa wb : TI} (ha : PI X tg e wa) (hb : PI X tg e wb) : PI X tg e (fun σ H R => wa σ H R ∨ wb σ H R) := ⟨fun pins s σ H R I h => by
  rcases h with h | h
  · exact ha.run pins s σ H R I h
  · exact hb.run pins s σ H R I h⟩
def iSq (K : PySem.W.Frag) (tl : TE) : TI := fun σ H R => iList K tl σ H R ∨ iTup K tl σ H R
theorem pi_sq {tl : TE} (hl : PE X e tl) : PI X tg e (iSq X.K tl) := pi_or (pi_list hl) (pi_tup hl)
/-- a list or a tuple of these -/
def Sq (H : Hp) (a : Addr) (us : List V) : Prop := H a = some (.lst us) ∨ H a = some (.tup us)
theorem Sq.same {H H' : Hp} {a : Addr} {us : List V} (s : Same H H') (h : Sq H a us) : Sq H' a us := h.elim (fun h => .inl (s _ _ h)) fun h => .inr (s _ _ h)
theorem Sq.len {K : PySem.W.Frag} {H : Hp} {a : Addr} {us : List V} (h : Sq H a us) : LenV K (.ref a) H us.length := h.elim (fun h => .inl ⟨_, SqL.of h, rfl⟩) fun h => .inr ⟨_, SqT.of h, rfl⟩
theorem isq {K : PySem.W.Frag} {tl : TE} {σ : L2.St} {H : Hp} {R : It → Hp → Prop} {a : Addr} {us : List V} (ht : ∀ Q : VK, Q (.ref a) H → tl σ H Q) (h : Sq H a us)
    (k : ∀ (J : It) (G : Hp → Prop), Walk J us.length G (YAt us) → (∀ H', (∀ o, H a = some o → H' a = some o) → G H') → R J H) : iSq K tl σ H R := by
  rcases h with h | h
  · exact .inl (ht _ ⟨a, rfl, ⟨us, SqL.of h⟩, k _ (fun H' => SqL K H' a us) walk_list (fun H' q => SqL.of (q _ h))⟩)
  · exact .inr (ht _ ⟨a, rfl, ⟨us, SqT.of h⟩, k _ (fun H' => SqT K H' a us) walk_tup (fun H' q => SqT.of (q _ h))⟩)
end
end My

set_option Elab.async false
set_option maxRecDepth 100000
set_option maxHeartbeats 4000000
set_option linter.all false
namespace C79
open PySem L2 My M78
abbrev sIsScript : Stmt := top 14
/-- the flags behind a word -/
def opB (v : Wd) (o : Bool) : Bool := isOp v || (o && !isEn v)
def rdB (v : Wd) (r : Bool) : Bool := decide (v = .sta) || (r && !decide (v = .sto))
def okW (v : Wd) (o r : Bool) : Bool := !(isOp v && o || (isEn v && !o)) && !(decide (v = .sta) && r || (decide (v = .sto) && !r))
def okS : Bool → Bool → List Wd → Bool
  | _, _, [] => true
  | o, r, v :: vs => okW v o r && okS (opB v o) (rdB v r) vs
/-- the flags behind n words -/
def flg (sc : List Wd) : Nat → Bool × Bool
  | 0 => (false, false)
  | n + 1 => match sc[n]? with | some v => (opB v (flg sc n).1, rdB v (flg sc n).2) | none => flg sc n
theorem in_all (v : Wd) : (!inV (.str (wS v)) (([.str (Str.ofString "begin"), .str (Str.ofString "immediate"), .str (Str.ofString "exclusive")] ++ [.str (Str.ofString "commit"), .str (Str.ofString "rollback")]) ++ [.str (Str.ofString "read"), .str (Str.ofString "start"), .str (Str.ofString "stop"), .str (Str.ofString "write")])) = false := by cases v <;> decide +kernel
theorem asg_tv {te : TE} {g : TG} {D : Ends} {σ : L2.St} {H : Hp} (x : V) (h : ∀ Q' : VK, Q' x H → te σ H Q') (k : g x σ H D.nx) : tAsg te g D σ H := h _ k
theorem seq_asg_tv {te : TE} {g : TG} {r : TS} {D : Ends} {σ : L2.St} {H : Hp} (x : V) (h : ∀ Q' : VK, Q' x H → te σ H Q') (k : g x σ H (r D)) : tSeq (tAsg te g) r D σ H := h _ k
section
variable {P : Program} {w : World} {K : PySem.W.Frag} {mg : Str → Option Value} {base : Heap}
abbrev nIsScript : List Str := ["thing", "opened", "reads", "step"]
theorem scIsScript : FnScope nIsScript ["thing"] (defScope sIsScript) := ⟨rfl, rfl, rfl, by decide +kernel, rfl, by decide +kernel, by decide +kernel⟩
/-- a script of known words, each allowed where it stands -/
def spIsScript : Sp := fun vs H Q _ => ∃ (m p : Addr) (o : HO) (sc : List Wd) (d : PyData), H m = some o ∧ vs = [.ref p] ∧ At m H (.ref p) d ∧ (d = .list (sc.map fun v => .str (wS v)) ∨ d = .tuple (sc.map fun v => .str (wS v))) ∧
  sc.length ≤ 8 ∧ (∀ n v, sc[n]? = some v → okW v (flg sc n).1 (flg sc n).2 = true) ∧ ∀ H', Same H H' → Q (.bl true) H'
theorem pr_isScript (D : Df K mg "is_script" sIsScript ["thing"]) (T : Ty mg) (T3 : mg "str" = none) (G : Tk K mg) (PL : Pr P w K mg base 1 "is_list" ["thing"] spIsList) : Pr P w K mg base 2 "is_script" ["thing"] spIsScript := by
  refine D.pr scIsScript (fun vs H Q E h => ?_) (fun f cdv A outer s H vs Q E hr h => ?_)
  · obtain ⟨m, p, o, sc, d, hm, rfl, _⟩ := h
    rfl
  · obtain ⟨m, p, o, sc, d, hm, rfl, ha, hd, hl, hok, k⟩ := h
    have nd := scIsScript.nd
    obtain ⟨aOp, gOp, qOp⟩ := G.op
    obtain ⟨aEn, gEn, qEn⟩ := G.en
    obtain ⟨aOt, gOt, qOt⟩ := G.ot
    refine ⟨_, (pss_cons (ps_if (PW.pt (pw_or (pt_not (pt_val (pe_callP PL hr (by rfl) (pa_cons (pv 0) pa_nil)))) (pw_or1 (pt_cmpR op_gt (pe_callB call_len (by rfl) T.len PySem.boot_len (pa_cons (pv 0) pa_nil)) pe_int (nomark _)))))
        (pss_one (ps_ret pe_bl))
        pss_nil)
      (pss_cons (ps_asg2 pe_bl (pg_name (i := 1) nd rfl (Or.inl rfl)) (pg_name (i := 2) nd rfl (Or.inl rfl)))
      (pss_cons (ps_for PassesOwn.never rfl (pi_sq (pv 0)) (pg_name (i := 3) nd rfl (Or.inl rfl))
        (pss_cons (ps_if (PW.pt (pw_or (pt_not (pt_val (pe_callB call_isi (by rfl) T.isinstance (by decide +kernel) (pa_cons (pv 3) (pa_cons (pe_bltn (v := .ty "str") (by rfl) T3 (by decide +kernel) rfl) pa_nil))))) (pw_or1 (pt_cmpR op_notIn_seq (pv 3) (pe_op op_catA (pe_op op_catA (pe_gR rfl gOp) (pe_gR rfl gEn)) (pe_gR rfl gOt)) (by rfl)))))
          (pss_one (ps_ret pe_bl))
          pss_nil)
        (pss_cons (ps_if (PW.pt (pw_or (PW.pt (pw_and (pt_cmpR op_in_seq (pv 3) (pe_gR rfl gOp) (by rfl)) (pw_and1 (pt_val (pv 1))))) (pw_or1 (PW.pt (pw_and (pt_cmpR op_in_seq (pv 3) (pe_gR rfl gEn) (by rfl)) (pw_and1 (pt_not (pt_val (pv 1)))))))))
          (pss_one (ps_ret pe_bl))
          pss_nil)
        (pss_cons (ps_if (PW.pt (pw_or (PW.pt (pw_and (pt_cmpR op_eq (pv 3) pe_str (nomark _)) (pw_and1 (pt_val (pv 2))))) (pw_or1 (PW.pt (pw_and (pt_cmpR op_eq (pv 3) pe_str (nomark _)) (pw_and1 (pt_not (pt_val (pv 2)))))))))
          (pss_one (ps_ret pe_bl))
          pss_nil)
        (pss_cons (ps_asg (pe_or (pe_cmpR op_in_seq (pv 3) (pe_gR rfl gOp) (by rfl)) (pe_one (pe_and (pv 1) (pe_one (pe_cmpR op_notIn_seq (pv 3) (pe_gR rfl gEn) (by rfl)))))) (pg_name (i := 1) nd rfl (Or.inl rfl)))
        (pss_one (ps_asg (pe_or (pe_cmpR op_eq (pv 3) pe_str (nomark _)) (pe_one (pe_and (pv 2) (pe_one (pe_cmpR op_ne (pv 3) pe_str (nomark _)))))) (pg_name (i := 2) nd rfl (Or.inl rfl)))))))))
      (pss_one (ps_ret pe_bl))))), ?_⟩
    obtain ⟨us, hsq, hus⟩ : ∃ us, Sq H p us ∧ AtAll m H us (sc.map fun v => .str (wS v)) := by
      rcases hd with rfl | rfl
      · cases ha with
        | lst n e q => exact ⟨_, .inl e, q⟩
      · cases ha with
        | tup n e q => exact ⟨_, .inr e, q⟩
    have hlen : us.length = sc.length := by
      rw [hus.length, List.length_map]
    have hlt : lt2 d = true := by
      rcases hd with rfl | rfl <;> rfl
    refine ⟨_, rfl, m, o, _, d, hm, rfl, ha, fun H1 s1 => ?_⟩
    rw [hlt]
    refine ⟨_, rfl, iteF ?_⟩
    refine ⟨_, rfl, _, _, rfl, (hsq.same s1).len, _, _, rfl, rfl, _, rfl, ?_⟩
    rw [decide_eq_false (show ¬ ((8 : Int) < (us.length : Int)) by omega)]
    refine iteF ?_
    refine isq (a := p) (us := us) (fun Q q => ⟨_, rfl, q⟩) (hsq.same s1) (fun J G W hG => ?_)
    refine for_it W (fun i σ H2 => Same H1 H2 ∧ ∃ o3, σ = [some (.ref p), some (.bl (flg sc i).1), some (.bl (flg sc i).2), o3]) ⟨fun _ _ e => e, _, rfl⟩ (fun i σ H2 _ q => hG _ (fun _ e => q.1 _ _ e)) ?_ ?_
    · rintro i x σ H2 H3 hi ⟨s2, o3, rfl⟩ ⟨rfl, ex⟩
      obtain ⟨dx, e1, ax⟩ := hus.get ex
      have his : i < sc.length := by omega
      have hv : sc[i]? = some sc[i] := List.getElem?_eq_getElem his
      rw [List.getElem?_map, hv] at e1
      cases e1
      cases ax
      have hw := hok i _ hv
      have hf : flg sc (i + 1) = (opB sc[i] (flg sc i).1, rdB sc[i] (flg sc i).2) := by
        show (match sc[i]? with | some v => (opB v (flg sc i).1, rdB v (flg sc i).2) | none => flg sc i) = _
        rw [hv]
      rw [hf]
      generalize sc[i] = v at *
      generalize (flg sc i).1 = fo at *
      generalize (flg sc i).2 = fr at *
      refine ⟨_, rfl, _, _, _, _, true, rfl, .ty "str", .base (.str _), kit_ty k_str_str, ?_⟩
      refine ⟨_, rfl, iteF ?_⟩
      have eSta : decide (V.str (wS v) = V.str (Str.ofString "start")) = decide (v = .sta) := eqW v .sta
      have eSto : decide (V.str (wS v) = V.str (Str.ofString "stop")) = decide (v = .sto) := eqW v .sto
      refine ⟨_, rfl, ?_⟩
      refine ⟨aOp, aEn, _, _, rfl, rfl, qOp _, qEn _, (by show 5 ≤ sizeLine; decide), (fun e => nomatch e), (fun _ e => nomatch e), fun _ _ p1 hp1 => ?_⟩
      have t1 := same_new (o := .tup ([.str (Str.ofString "begin"), .str (Str.ofString "immediate"), .str (Str.ofString "exclusive")] ++ [.str (Str.ofString "commit"), .str (Str.ofString "rollback")])) hp1
      refine ⟨p1, aOt, _, _, rfl, rfl, SqT.of upd_same, qOt _, (by show 9 ≤ sizeLine; decide), (fun e => nomatch e), (fun _ e => nomatch e), fun _ _ p2 hp2 => ?_⟩
      have t2 := same_new (o := .tup (([.str (Str.ofString "begin"), .str (Str.ofString "immediate"), .str (Str.ofString "exclusive")] ++ [.str (Str.ofString "commit"), .str (Str.ofString "rollback")]) ++ [.str (Str.ofString "read"), .str (Str.ofString "start"), .str (Str.ofString "stop"), .str (Str.ofString "write")])) hp2
      refine ⟨_, _, rfl, .inr (SqT.of upd_same), rfl, rfl, _, rfl, ?_⟩
      rw [in_all v]
      refine iteF ?_
      have s4 := Same.tr s2 (Same.tr t1 t2)
      dsimp only [tNext]
      refine seq_if_tv false (fun K' kk => ?_) (fun hb => by cases hb) (fun _ => ?_)
      · refine ⟨_, rfl, _, _, rfl, .inr (qOp _), rfl, rfl, _, rfl, ?_⟩
        rw [in_op v]
        cases hop : isOp v
        · refine iteF (iteF ⟨_, rfl, _, _, rfl, .inr (qEn _), rfl, rfl, _, rfl, ?_⟩)
          rw [in_en v]
          cases hen : isEn v
          · exact iteF kk
          · have hfo : fo = true := by
              cases fo
              · simp [okW, hop, hen] at hw
              · rfl
            subst hfo
            exact iteT ⟨_, rfl, _, rfl, kk⟩
        · have hfo : fo = false := by
            cases fo
            · rfl
            · simp [okW, hop] at hw
          subst hfo
          refine iteT ⟨_, rfl, _, rfl, iteF ⟨_, rfl, _, _, rfl, .inr (qEn _), rfl, rfl, _, rfl, ?_⟩⟩
          have hen : isEn v = false := by
            cases v <;> first | rfl | cases hop
          rw [in_en v, hen]
          exact iteF kk
      dsimp only [tNext]
      refine seq_if_tv false (fun K' kk => ?_) (fun hb => by cases hb) (fun _ => ?_)
      · refine ⟨_, rfl, rfl, _, rfl, ?_⟩
        rw [eSta]
        by_cases hst : v = .sta
        · have hfr : fr = false := by
            cases fr
            · rfl
            · simp [okW, hst] at hw
          rw [decide_eq_true hst]
          subst hfr
          refine iteT ⟨_, rfl, _, rfl, iteF ⟨_, rfl, rfl, _, rfl, ?_⟩⟩
          rw [eSto, decide_eq_false (show ¬ v = .sto by rw [hst]; decide)]
          exact iteF kk
        · rw [decide_eq_false hst]
          refine iteF (iteF ⟨_, rfl, rfl, _, rfl, ?_⟩)
          rw [eSto]
          by_cases hso : v = .sto
          · have hfr : fr = true := by
              cases fr
              · simp [okW, hso] at hw
              · rfl
            rw [decide_eq_true hso]
            subst hfr
            exact iteT ⟨_, rfl, _, rfl, kk⟩
          · rw [decide_eq_false hso]
            exact iteF kk
      dsimp only [tNext]
      refine seq_asg_tv (.bl (opB v fo)) (fun Q' kk => ?_) ?_
      · refine ⟨_, rfl, _, _, rfl, .inr (qOp _), rfl, rfl, _, rfl, ?_⟩
        rw [in_op v]
        unfold opB at kk
        cases hop : isOp v
        · rw [hop] at kk
          refine iteF ⟨_, rfl, _, rfl, ?_⟩
          cases fo
          · exact iteF kk
          · refine iteT ⟨_, rfl, _, _, rfl, .inr (qEn _), rfl, rfl, ?_⟩
            rw [in_en v]
            exact kk
        · rw [hop] at kk
          exact iteT kk
      dsimp only [gName]
      refine asg_tv (.bl (rdB v fr)) (fun Q' kk => ?_) ?_
      · refine ⟨_, rfl, rfl, _, rfl, ?_⟩
        rw [eSta]
        unfold rdB at kk
        cases hop : decide (v = .sta)
        · rw [hop] at kk
          refine iteF ⟨_, rfl, _, rfl, ?_⟩
          cases fr
          · exact iteF kk
          · refine iteT ⟨_, rfl, rfl, ?_⟩
            rw [eSto]
            exact kk
        · rw [hop] at kk
          exact iteT kk
      exact ⟨s4, _, rfl⟩
    · rintro σ H2 ⟨s2, o3, rfl⟩
      exact k _ (Same.tr s1 s2)
end
end C79

set_option Elab.async false
set_option maxRecDepth 100000
set_option maxHeartbeats 4000000
set_option linter.all false
namespace C79
open PySem L2 My M78
abbrev sBegun : Stmt := top 46
def row0 : Row := ⟨0, false, false, 0⟩
def Rows0 (m : Addr) (H : Hp) (vs : List V) : Prop := ∀ v ∈ vs, ∃ R, v = .ref R ∧ R ≠ m ∧ H R = some (.tup (rowV row0))
theorem Rows0.all {m : Addr} {H : Hp} : ∀ {vs : List V}, Rows0 m H vs → AtAll m H vs ((List.replicate vs.length row0).map rowD)
  | [], _ => .nil
  | v :: vs, h => by
    obtain ⟨R, rfl, n, e⟩ := h v (List.mem_cons_self ..)
    exact .cons (row_at n e) (Rows0.all fun u hu => h u (List.mem_cons_of_mem _ hu))
section
variable {P : Program} {w : World} {K : PySem.W.Frag} {mg : Str → Option Value} {base : Heap}
abbrev nBegun : List Str := ["_law_scripts_here", "_law_one_here"]
theorem scBegun : FnScope nBegun ["_law_scripts_here"] (defScope sBegun) := ⟨rfl, rfl, rfl, by decide +kernel, rfl, by decide +kernel, by decide +kernel⟩
def spBegun : Sp := fun vs H Q _ => ∃ (m A : Addr) (o : HO) (ss : List (List Wd)), H m = some o ∧ vs = [.ref A] ∧ At m H (.ref A) (scD ss) ∧ ss.length ≤ 1000 ∧
  ∀ (q : Addr) (H' : Hp), H q = none → Same H H' → At m H' (.ref q) (stD (List.replicate ss.length row0)) → Q (.ref q) H'
theorem pr_begun (D : Df K mg "_law_begun" sBegun ["_law_scripts_here"]) (T : Ty mg) : Pr P w K mg base 1 "_law_begun" ["_law_scripts_here"] spBegun := by
  refine D.pr scBegun (fun vs H Q E h => ?_) (fun f cdv A outer s H vs Q E hr h => ?_)
  · obtain ⟨m, A, o, ss, hm, rfl, _⟩ := h
    rfl
  · obtain ⟨m, A, o, ss, hm, rfl, hA, hle, k⟩ := h
    have nd := scBegun.nd
    refine ⟨_, (pss_one (ps_ret (pe_callTy call_tuple_of (by rfl) T.tuple (by decide +kernel) (pa_cons (pe_lc (own := [("_law_one_here", 1)]) (g := gName 1) (tt := tYes) (by rfl) nd (pi_tup (pv 0))
  (blkOk_by (own := [("_law_one_here", 1)]) (N := nBegun) (sc := defScope sBegun) (by decide +kernel))
  (fun _ _ _ _ _ => pg_name (i := 1) nd rfl (Or.inl rfl) (Or.inr rfl)) (fun _ _ _ _ _ => pts_nil)
  (fun _ _ _ _ _ => (pe_tup (pa_cons pe_int (pa_cons pe_bl (pa_cons pe_bl (pa_cons pe_int pa_nil))))))) pa_nil)))), ?_⟩
    obtain ⟨_, ua, ea, nA, hA1, aA⟩ := at_tup hA
    cases ea
    have lua : ua.length = ss.length := by
      rw [aA.length, List.length_map]
    refine ⟨_, rfl, _, rfl, ⟨_, SqT.of hA1⟩, fun Dl hD => ?_⟩
    refine lc_it (walk_tup (xs := ua)) (fun i H2 => Same H H2 ∧ ∃ vs, H2 Dl = some (.lst vs) ∧ vs.length = i ∧ Rows0 m H2 vs) ?_ ?_ ?_ ?_
    · exact ⟨same_new hD, _, upd_same, rfl, fun v hv => nomatch hv⟩
    · exact fun i H2 _ q => SqT.of (q.1 _ _ hA1)
    · rintro i y H2 H3 hi ⟨sm, vs, hl, lv, av⟩ ⟨rfl, er⟩
      refine ⟨rfl, ?_⟩
      refine ⟨(by show 4 ≤ sizeLine; decide), fun R hR => ?_⟩
      have nD : Dl ≠ R := ne_of_none hl hR
      have nR : R ≠ m := fun z => by
        rw [z, sm _ _ hm] at hR
        cases hR
      have nDm : Dl ≠ m := fun z => by
        rw [z, hm] at hD
        cases hD
      refine ⟨vs, (by rw [upd_ne nD]; exact hl), small6 (by omega), ?_, vs ++ [.ref R], upd_same, by rw [List.length_append, lv]; rfl, ?_⟩
      · intro b u e
        rw [upd_ne (ne_of_none e hD)]
        exact same_new hR _ _ (sm _ _ e)
      · intro v hv
        rcases List.mem_append.mp hv with h | h
        · obtain ⟨R', rfl, n', e'⟩ := av v h
          have nn : R' ≠ Dl := ne_of e' hl (by intro z; cases z)
          exact ⟨R', rfl, n', by rw [upd_ne nn]; exact same_new hR _ _ e'⟩
        · obtain rfl := List.mem_singleton.mp h
          exact ⟨R, rfl, nR, by rw [upd_ne (Ne.symm nD)]; exact upd_same⟩
    · rintro H2 ⟨s2, vs, hl, lv, av⟩
      have av := av.all
      rw [lv, lua] at av
      refine ⟨_, _, rfl, .inl ⟨SqL.of hl, fun q hq => ?_⟩⟩
      have s3 := same_new (o := .tup vs) hq
      refine k q _ (Same.free s2 hq) (Same.tr s2 s3) (.tup (fun z => by rw [z, s2 _ _ hm] at hq; cases hq) upd_same (av.mono (Same.but (m := m) s3)))
end
end C79

set_option Elab.async false
set_option maxRecDepth 100000
set_option maxHeartbeats 4000000
set_option linter.all false
/-! Data apart from two objects; a list of data under construction. -/
namespace My
open PySem PySem.Spec PyProof.Rows L2
/-- all but two objects stay -/
def But2 (m c : Addr) (H H' : Hp) : Prop := ∀ b o, H b = some o → b ≠ m → b ≠ c → H' b = some o
mutual
theorem At.but2 {m c : Addr} {H H' : Hp} (b : But2 m c H H') : ∀ {v : V} {d : PyData}, At m H v d → At c H v d → At m H' v d
  | _, _, .non, _ => .non
  | _, _, .bl k, _ => .bl k
  | _, _, .int i, _ => .int i
  | _, _, .str x, _ => .str x
  | _, _, .lst n h q, .lst n' h' q' => by
    rw [h] at h'
    cases h'
    exact .lst n (b _ _ h n n') (AtAll.but2 b q q')
  | _, _, .tup n h q, .tup n' h' q' => by
    rw [h] at h'
    cases h'
    exact .tup n (b _ _ h n n') (AtAll.but2 b q q')
theorem AtAll.but2 {m c : Addr} {H H' : Hp} (b : But2 m c H H') : ∀ {vs : List V} {ds : List PyData}, AtAll m H vs ds → AtAll c H vs ds → AtAll m H' vs ds
  | _, _, .nil, _ => .nil
  | _, _, .cons h q, .cons h' q' => .cons (At.but2 b h h') (AtAll.but2 b q q')
end
mutual
theorem At.fresh {m c : Addr} {H : Hp} (hc : H c = none) : ∀ {v : V} {d : PyData}, At m H v d → At c H v d
  | _, _, .non => .non
  | _, _, .bl k => .bl k
  | _, _, .int i => .int i
  | _, _, .str x => .str x
  | _, _, .lst n h q => .lst (ne_of_none h hc) h (AtAll.fresh hc q)
  | _, _, .tup n h q => .tup (ne_of_none h hc) h (AtAll.fresh hc q)
theorem AtAll.fresh {m c : Addr} {H : Hp} (hc : H c = none) : ∀ {vs : List V} {ds : List PyData}, AtAll m H vs ds → AtAll c H vs ds
  | _, _, .nil => .nil
  | _, _, .cons h q => .cons (At.fresh hc h) (AtAll.fresh hc q)
end
theorem But2.swap {m c : Addr} {H H' : Hp} (b : But2 m c H H') : But2 c m H H' := fun x o e n1 n2 => b x o e n2 n1
theorem But2.ofM {m c : Addr} {H H' : Hp} (b : But m H H') : But2 m c H H' := fun x o e n1 _ => b x o e n1
theorem But2.upd {m c : Addr} {H : Hp} {o : HO} : But2 m c H (upd H c o) := fun x u e _ n => by
  rw [upd_ne n]
  exact e
theorem Same.new {H : Hp} {p : Addr} {o : HO} (h : H p = none) : Same H (upd H p o) := fun b u e => by
  rw [upd_ne (ne_of_none e h)]
  exact e
/-- at c a list of the values vs is being made, the data ds, apart from m and from itself -/
def Bld (m c : Addr) (H : Hp) (vs : List V) (ds : List PyData) : Prop := c ≠ m ∧ H c = some (.lst vs) ∧ AtAll m H vs ds ∧ AtAll c H vs ds
theorem Bld.start {m c : Addr} {H : Hp} {o : HO} (hm : H m = some o) (hc : H c = none) : Bld m c (upd H c (.lst [])) [] [] :=
  ⟨fun z => (by rw [z, hm] at hc; cases hc), upd_same, .nil, .nil⟩
theorem Bld.but {m c : Addr} {H H' : Hp} {vs : List V} {ds : List PyData} (h : Bld m c H vs ds) (b : But m H H') : Bld m c H' vs ds :=
  ⟨h.1, b _ _ h.2.1 h.1, h.2.2.1.mono b, h.2.2.2.but2 (But2.ofM b).swap h.2.2.1⟩
theorem Bld.same {m c : Addr} {H H' : Hp} {vs : List V} {ds : List PyData} (h : Bld m c H vs ds) (s : Same H H') : Bld m c H' vs ds := h.but (Same.but s)
theorem Bld.push {m c : Addr} {H : Hp} {vs : List V} {ds : List PyData} {v : V} {d : PyData} (h : Bld m c H vs ds) (a : At m H v d) (b : At c H v d) : Bld m c (upd H c (.lst (vs ++ [v]))) (vs ++ [v]) (ds ++ [d]) :=
  ⟨h.1, upd_same, (h.2.2.1.append a).but2 But2.upd (h.2.2.2.append b), (h.2.2.2.append b).but2 (fun x u e n1 _ => by rw [upd_ne n1]; exact e) (h.2.2.1.append a)⟩
theorem Bld.len {m c : Addr} {H : Hp} {vs : List V} {ds : List PyData} (h : Bld m c H vs ds) : vs.length = ds.length := h.2.2.1.length
/-- the list itself as data -/
theorem Bld.at {m c : Addr} {H : Hp} {vs : List V} {ds : List PyData} (h : Bld m c H vs ds) : At m H (.ref c) (.list ds) := .lst h.1 h.2.1 h.2.2.1
theorem Bld.tup {m c p : Addr} {H : Hp} {vs : List V} {ds : List PyData} {o : HO} (h : Bld m c H vs ds) (hm : H m = some o) (hp : H p = none) : At m (upd H p (.tup vs)) (.ref p) (.tuple ds) :=
  .tup (fun z => by rw [z, hm] at hp; cases hp) upd_same (h.2.2.1.mono (Same.but (Same.new hp)))
/-- a list or a tuple of these data -/
def Sq2 (d : PyData) (ds : List PyData) : Prop := d = .list ds ∨ d = .tuple ds
theorem Sq2.at {m : Addr} {H : Hp} {v : V} {d : PyData} {ds : List PyData} (s : Sq2 d ds) (h : At m H v d) : ∃ a vs, v = .ref a ∧ a ≠ m ∧ Sq H a vs ∧ AtAll m H vs ds := by
  rcases s with rfl | rfl
  · cases h with
    | lst n e q => exact ⟨_, _, rfl, n, .inl e, q⟩
  · cases h with
    | tup n e q => exact ⟨_, _, rfl, n, .inr e, q⟩
theorem Sq.sqLT {K : PySem.W.Frag} {H : Hp} {a : Addr} {vs : List V} (h : Sq H a vs) : SqL K H a vs ∨ SqT K H a vs := h.elim (fun h => .inl (SqL.of h)) fun h => .inr (SqT.of h)
def rTupOf (K : PySem.W.Frag) : List V → Hp → VK → Prop := fun xs H Q => ∃ p ys, xs = [.ref p] ∧ ((SqL K H p ys ∧ ∀ l, H l = none → Q (.ref l) (upd H l (.tup ys))) ∨ (SqT K H p ys ∧ Q (.ref p) H))
/-- tuple(x) of a list or a tuple of data -/
theorem tuple_any {K : PySem.W.Frag} {m a : Addr} {H : Hp} {vs : List V} {ds : List PyData} {o : HO} {Q : VK} (hm : H m = some o) (na : a ≠ m) (h : Sq H a vs) (q : AtAll m H vs ds)
    (k : ∀ (p : Addr) (H' : Hp), Same H H' → (p = a ∨ H p = none) → At m H' (.ref p) (.tuple ds) → Q (.ref p) H') : rTupOf K [.ref a] H Q := by
  rcases h with h | h
  · refine ⟨_, _, rfl, .inl ⟨SqL.of h, fun p hp => ?_⟩⟩
    exact k p _ (Same.new hp) (.inr hp) (.tup (fun z => by rw [z, hm] at hp; cases hp) upd_same (q.mono (Same.but (Same.new hp))))
  · exact ⟨_, _, rfl, .inr ⟨SqT.of h, k a H (fun _ _ e => e) (.inl rfl) (.tup na h q)⟩⟩
end My

set_option Elab.async false
set_option maxRecDepth 100000
set_option maxHeartbeats 4000000
set_option linter.all false
namespace C79
open PySem L2 My M78

def scE (sc : List Wd) : List PyData := sc.map fun v => .str (wS v)
/-- scripts, each a list or a tuple, all in a list or a tuple -/
def ScIn (ss : List (List Wd)) (d : PyData) : Prop := ∃ ds, Sq2 d ds ∧ Paired (fun sc e => Sq2 e (scE sc)) ss ds
def okScr (sc : List Wd) : Prop := sc.length ≤ 8 ∧ ∀ n v, sc[n]? = some v → okW v (flg sc n).1 (flg sc n).2 = true
theorem paired_get {α β : Type} {R : α → β → Prop} : ∀ {xs : List α} {ys : List β} {i : Nat} {y : β}, Paired R xs ys → ys[i]? = some y → ∃ x, xs[i]? = some x ∧ R x y
  | _, _, _, _, .nil, e => by simp at e
  | _, _, 0, _, .cons h _, e => by
    simp at e
    subst e
    exact ⟨_, rfl, h⟩
  | _, _, i + 1, y, .cons _ q, e => by
    obtain ⟨x, h1, h2⟩ := paired_get (i := i) (y := y) q (by simpa using e)
    exact ⟨x, by simpa using h1, h2⟩
theorem paired_len {α β : Type} {R : α → β → Prop} : ∀ {xs : List α} {ys : List β}, Paired R xs ys → xs.length = ys.length
  | _, _, .nil => rfl
  | _, _, .cons _ q => by rw [List.length_cons, List.length_cons, paired_len q]
theorem take_succ' {α : Type} {xs : List α} {i : Nat} {x : α} (h : xs[i]? = some x) : xs.take (i + 1) = xs.take i ++ [x] := by
  rw [List.take_add_one, h]
  rfl
abbrev sChecked : Stmt := top 15
abbrev nChecked : List Str := ["scripts", "script"]
theorem scChecked : FnScope nChecked ["scripts"] (defScope sChecked) := ⟨rfl, rfl, rfl, by decide +kernel, rfl, by decide +kernel, by decide +kernel⟩
abbrev sFirst : Stmt := top 16
abbrev nFirst : List Str := ["scripts", "script"]
theorem scFirst : FnScope nFirst ["scripts"] (defScope sFirst) := ⟨rfl, rfl, rfl, by decide +kernel, rfl, by decide +kernel, by decide +kernel⟩
section
variable {P : Program} {w : World} {K : PySem.W.Frag} {mg : Str → Option Value} {base : Heap}

def spChecked : Sp := fun vs H Q _ => ∃ (m A : Addr) (o : HO) (ss : List (List Wd)) (d : PyData), H m = some o ∧ vs = [.ref A] ∧ At m H (.ref A) d ∧ ScIn ss d ∧ 1 ≤ ss.length ∧ ss.length ≤ 4 ∧ (∀ sc ∈ ss, okScr sc) ∧
  ∀ (q : Addr) (H' : Hp), Same H H' → At m H' (.ref q) (scD ss) → Q (.ref q) H'
theorem pr_checked (D : Df K mg "checked" sChecked ["scripts"]) (T : Ty mg) (PL : Pr P w K mg base 1 "is_list" ["thing"] spIsList) (PI : Pr P w K mg base 2 "is_script" ["thing"] spIsScript) : Pr P w K mg base 3 "checked" ["scripts"] spChecked := by
  refine D.pr scChecked (fun vs H Q E h => ?_) (fun f cdv A outer s H vs Q E hr h => ?_)
  · obtain ⟨m, A, o, ss, d, hm, rfl, _⟩ := h
    rfl
  · obtain ⟨m, A, o, ss, d, hm, rfl, hA, ⟨ds, sq, pr⟩, l1, l4, hok, k⟩ := h
    have nd := scChecked.nd
    have hr1 := hr.mono (show 1 ≤ 2 by decide)
    refine ⟨_, (pss_cons (ps_if (PW.pt (pw_or (pt_not (pt_val (pe_callP PL hr1 (by rfl) (pa_cons (pv 0) pa_nil)))) (pw_or (pt_not (pt_chain op_le op_le pe_int (pe_callB call_len (by rfl) T.len PySem.boot_len (pa_cons (pv 0) pa_nil)) pe_int)) (pw_or1 (pt_not (pt_val (pe_callB (cr_all rfl) (by rfl) T.all (by decide +kernel) (pa_cons (pe_lc (own := [("script", 1)]) (g := gName 1) (tt := tYes) (by rfl) nd (pi_sq (pv 0))
  (blkOk_by (own := [("script", 1)]) (N := nChecked) (sc := defScope sChecked) (by decide +kernel))
  (fun _ _ _ _ _ => pg_name (i := 1) nd rfl (Or.inl rfl) (Or.inr rfl)) (fun _ _ _ _ _ => pts_nil)
  (fun _ _ _ _ _ => (pe_callP PI hr (by rfl) (pa_cons (pv 1) pa_nil)))) pa_nil))))))))
        (pss_one ps_never)
        pss_nil)
      (pss_one (ps_ret (pe_callTy call_tuple_of (by rfl) T.tuple (by decide +kernel) (pa_cons (pe_lc (own := [("script", 1)]) (g := gName 1) (tt := tYes) (te := tCB (rTupOf K) (tCons (tVar 1) tNil)) (by rfl) nd (pi_sq (pv 0))
  (blkOk_by (own := [("script", 1)]) (N := nChecked) (sc := defScope sChecked) (by decide +kernel))
  (fun _ _ _ _ _ => pg_name (i := 1) nd rfl (Or.inl rfl) (Or.inr rfl)) (fun _ _ _ _ _ => pts_nil)
  (fun _ _ _ _ _ => (pe_callTy call_tuple_of (by rfl) T.tuple (by decide +kernel) (pa_cons (pv 1) pa_nil)))) pa_nil))))), ?_⟩
    obtain ⟨_, ua, ea, nA, hA1, aA⟩ := sq.at hA
    cases ea
    have lds := paired_len pr
    have lua : ua.length = ss.length := by
      rw [aA.length, lds]
    have hlt : lt2 d = true := by
      rcases sq with rfl | rfl <;> rfl
    refine ⟨_, rfl, m, o, _, d, hm, rfl, hA, fun H1 s1 => ?_⟩
    rw [hlt]
    refine ⟨_, rfl, iteF ?_⟩
    refine ⟨_, rfl, _, _, rfl, (hA1.same s1).len, _, _, rfl, rfl, _, rfl, ?_⟩
    rw [decide_eq_true (show (1 : Int) ≤ (ua.length : Int) by omega)]
    refine iteT ⟨_, _, rfl, rfl, _, rfl, ?_⟩
    rw [decide_eq_true (show (ua.length : Int) ≤ 4 by omega)]
    refine iteF ?_
    refine isq (a := A) (us := ua) (fun Q q => ⟨_, rfl, q⟩) (hA1.same s1) (fun J G W hG => fun Dl hD => ?_)
    refine lc_it W (fun i H2 => Same H1 H2 ∧ H2 Dl = some (.lst ((List.replicate i true).map V.bl))) ?_ ?_ ?_ ?_
    · exact ⟨same_new hD, upd_same⟩
    · exact fun i H2 _ q => hG _ (fun _ e => q.1 _ _ e)
    · rintro i y H9 H2 hi ⟨sm, hl⟩ ⟨rfl, er⟩
      have s2 : Same H H2 := Same.tr s1 sm
      obtain ⟨de, e1, ae⟩ := aA.get er
      obtain ⟨sc, e2, sqe⟩ := paired_get pr e1
      obtain ⟨ap, us, rfl, nap, hap, aap⟩ := sqe.at ae
      have hokc := hok sc (List.mem_of_getElem? e2)
      refine ⟨rfl, ?_⟩
      refine ⟨_, rfl, m, ap, o, sc, de, s2 _ _ hm, rfl, ae.mono (Same.but s2), sqe, hokc.1, hokc.2, fun H4 s4 => ?_⟩
      refine ⟨_, s4 _ _ hl, ?_, ?_, ?_⟩
      · rw [List.length_map, List.length_replicate]
        exact small6 (by omega)
      · intro b u e
        rw [upd_ne (ne_of_none e hD)]
        exact s4 _ _ (sm _ _ e)
      · rw [upd_same, List.replicate_succ', List.map_append]
        rfl
    · rintro H2 ⟨s2, hl⟩
      refine ⟨_, _, rfl, SqL.of hl, ?_⟩
      rw [show (List.replicate ua.length true).all id = true from by simp]
      refine ⟨_, rfl, iteF ?_⟩
      have s3 : Same H H2 := Same.tr s1 s2
      refine isq (a := A) (us := ua) (fun Q q => ⟨_, rfl, q⟩) (hA1.same s3) (fun J G W hG => fun Dm hDm => ?_)
      have hm2 := s3 _ _ hm
      refine lc_it W (fun i H4 => Same H2 H4 ∧ ∃ vs, Bld m Dm H4 vs ((ss.take i).map fun sc => .tuple (scE sc))) ?_ ?_ ?_ ?_
      · exact ⟨same_new hDm, [], Bld.start hm2 hDm⟩
      · exact fun i H4 _ q => hG _ (fun _ e => q.1 _ _ e)
      · rintro i y H9 H4 hi ⟨sm, vs, bl⟩ ⟨rfl, er⟩
        have s4 : Same H H4 := Same.tr s3 sm
        obtain ⟨de, e1, ae⟩ := aA.get er
        obtain ⟨sc, e2, sqe⟩ := paired_get pr e1
        obtain ⟨ap, us, rfl, nap, hap, aap⟩ := sqe.at ae
        have neD : ap ≠ Dm := by
          rcases hap with h | h
          · exact ne_of_none (s3 _ _ h) hDm
          · exact ne_of_none (s3 _ _ h) hDm
        have aap4 := aap.mono (Same.but (m := m) s4)
        have aapD : AtAll Dm H4 us (scE sc) := (aap.mono (Same.but (m := m) s3)).fresh hDm |>.mono (Same.but sm)
        refine ⟨rfl, ?_⟩
        refine ⟨_, rfl, ?_⟩
        dsimp only [tNil]
        refine tuple_any (m := m) (ds := scE sc) (s4 _ _ hm) nap (hap.same s4) aap4 (fun p H6 s6 hp ap6 => ?_)
        have bl6 := bl.same s6
        have np : p ≠ Dm := by
          rcases hp with rfl | hp
          · exact neD
          · exact fun z => by
              rw [z, bl.2.1] at hp
              cases hp
        have apD : At Dm H6 (.ref p) (.tuple (scE sc)) := by
          cases ap6 with
          | tup n e q =>
            refine .tup np e ?_
            have : ∀ {vs : List V} {sc : List Wd}, AtAll m H6 vs (scE sc) → AtAll Dm H6 vs (scE sc) := by
              intro vs sc
              induction sc generalizing vs with
              | nil =>
                intro h
                cases h
                exact .nil
              | cons a r ih =>
                intro h
                cases h with
                | cons h1 h2 =>
                  cases h1
                  exact .cons (.str _) (ih h2)
            exact this q
        refine ⟨vs, bl6.2.1, ?_, ?_, vs ++ [.ref p], ?_⟩
        · rw [bl.len, List.length_map, List.length_take]
          exact small6 (by omega)
        · intro b u e
          rw [upd_ne (ne_of_none e hDm)]
          exact s6 _ _ (sm _ _ e)
        · rw [take_succ' e2, List.map_append]
          exact bl6.push ap6 apD
      · rintro H4 ⟨s4, vs, bl⟩
        have s5 : Same H H4 := Same.tr s3 s4
        rw [lua, List.take_length] at bl
        refine ⟨_, _, rfl, .inl ⟨SqL.of bl.2.1, fun q hq => ?_⟩⟩
        exact k q _ (Same.tr s5 (same_new hq)) (bl.tup (s5 _ _ hm) hq)
/-- the state at the beginning -/
def spFirst : Sp := fun vs H Q _ => ∃ (m A : Addr) (o : HO) (ss : List (List Wd)) (d : PyData), H m = some o ∧ vs = [.ref A] ∧ At m H (.ref A) d ∧ ScIn ss d ∧ 1 ≤ ss.length ∧ ss.length ≤ 4 ∧ (∀ sc ∈ ss, okScr sc) ∧
  ∀ (q : Addr) (H' : Hp), Same H H' → At m H' (.ref q) (stD (List.replicate ss.length row0)) → Q (.ref q) H'
theorem pr_first (D : Df K mg "first_state" sFirst ["scripts"]) (T : Ty mg) (G : Tk K mg) (PC : Pr P w K mg base 3 "checked" ["scripts"] spChecked) : Pr P w K mg base 4 "first_state" ["scripts"] spFirst := by
  refine D.pr scFirst (fun vs H Q E h => ?_) (fun f cdv A outer s H vs Q E hr h => ?_)
  · obtain ⟨m, A, o, ss, d, hm, rfl, _⟩ := h
    rfl
  · obtain ⟨m, A, o, ss, d, hm, rfl, hA, hin, l1, l4, hok, k⟩ := h
    have nd := scFirst.nd
    obtain ⟨_, g0⟩ := G.l0
    refine ⟨_, (pss_one (ps_ret (pe_callTy call_tuple_of (by rfl) T.tuple (by decide +kernel) (pa_cons (pe_lc (own := [("script", 1)]) (g := gName 1) (tt := tYes) (by rfl) nd (pi_tup (pe_callP PC hr (by rfl) (pa_cons (pv 0) pa_nil)))
  (blkOk_by (own := [("script", 1)]) (N := nFirst) (sc := defScope sFirst) (by decide +kernel))
  (fun _ _ _ _ _ => pg_name (i := 1) nd rfl (Or.inl rfl) (Or.inr rfl)) (fun _ _ _ _ _ => pts_nil)
  (fun _ _ _ _ _ => (pe_tup (pa_cons pe_int (pa_cons pe_bl (pa_cons pe_bl (pa_cons (pe_gI rfl g0) pa_nil))))))) pa_nil)))), ?_⟩
    refine ⟨_, rfl, m, A, o, ss, d, hm, rfl, hA, hin, l1, l4, hok, fun q H0 s0 aq => ?_⟩
    obtain ⟨_, ua, ea, nA, hA1, aA⟩ := at_tup aq
    cases ea
    have hm0 := s0 _ _ hm
    have lua : ua.length = ss.length := by
      rw [aA.length, List.length_map]
    refine ⟨_, rfl, ⟨_, SqT.of hA1⟩, fun Dl hD => ?_⟩
    refine lc_it (walk_tup (xs := ua)) (fun i H2 => Same H0 H2 ∧ ∃ vs, Bld m Dl H2 vs ((List.replicate i row0).map rowD)) ?_ ?_ ?_ ?_
    · exact ⟨same_new hD, [], Bld.start hm0 hD⟩
    · exact fun i H2 _ q => SqT.of (q.1 _ _ hA1)
    · rintro i y H2 H3 hi ⟨sm, vs, bl⟩ ⟨rfl, er⟩
      refine ⟨rfl, ?_⟩
      refine ⟨(by show 4 ≤ sizeLine; decide), fun R hR => ?_⟩
      have bl3 := bl.same (Same.new (o := .tup (rowV row0)) hR)
      have nR : R ≠ m := fun z => by
        rw [z, sm _ _ hm0] at hR
        cases hR
      have nD : R ≠ Dl := fun z => by
        rw [z, bl.2.1] at hR
        cases hR
      refine ⟨vs, bl3.2.1, ?_, ?_, vs ++ [.ref R], ?_⟩
      · rw [bl.len, List.length_map, List.length_replicate]
        exact small6 (by omega)
      · intro b u e
        rw [upd_ne (ne_of_none e hD)]
        exact same_new hR _ _ (sm _ _ e)
      · rw [List.replicate_succ', List.map_append]
        exact bl3.push (row_at nR upd_same) (row_at nD upd_same)
    · rintro H2 ⟨s2, vs, bl⟩
      rw [lua] at bl
      refine ⟨_, _, rfl, .inl ⟨SqL.of bl.2.1, fun q hq => ?_⟩⟩
      exact k q _ (Same.tr s0 (Same.tr s2 (same_new hq))) (bl.tup (s2 _ _ hm0) hq)
end
end C79

set_option Elab.async false
set_option maxRecDepth 100000
set_option maxHeartbeats 4000000
set_option linter.all false
/-! Parts that give a known value and leave what stood as it was. -/
namespace My
open PySem PySem.Spec PyProof.Rows L2
/-- the expression gives v, what stood stands -/
def Gv (t : TE) (σ : L2.St) (H : Hp) (v : V) : Prop := ∀ Q : VK, (∀ H', Same H H' → Q v H') → t σ H Q
def Gt (t : TT) (σ : L2.St) (H : Hp) (b : Bool) : Prop := ∀ Q : Bool → Hp → Prop, (∀ H', Same H H' → Q b H') → t σ H Q
theorem Same.rfl' (H : Hp) : Same H H := fun _ _ e => e
theorem Same.tr' {H H1 H2 : Hp} (a : Same H H1) (b : Same H1 H2) : Same H H2 := fun x o e => b _ _ (a _ _ e)
theorem Gv.and {ta tb : TE} {σ : L2.St} {H : Hp} {a b : Bool} (h1 : Gv ta σ H (.bl a)) (h2 : ∀ H', Same H H' → Gv tb σ H' (.bl b)) : Gv (tAndV ta tb) σ H (.bl (a && b)) := fun Q k => h1 _ fun H1 s1 => ⟨a, rfl, by
  cases a
  · exact iteF (k _ s1)
  · exact iteT (h2 _ s1 _ fun H2 s2 => k _ (Same.tr' s1 s2))⟩
theorem Gv.or {ta tb : TE} {σ : L2.St} {H : Hp} {a b : Bool} (h1 : Gv ta σ H (.bl a)) (h2 : ∀ H', Same H H' → Gv tb σ H' (.bl b)) : Gv (tOrV ta tb) σ H (.bl (a || b)) := fun Q k => h1 _ fun H1 s1 => ⟨a, rfl, by
  cases a
  · exact iteF (h2 _ s1 _ fun H2 s2 => k _ (Same.tr' s1 s2))
  · exact iteT (k _ s1)⟩
theorem seq_asg_gv {te : TE} {g : TG} {r : TS} {D : Ends} {σ : L2.St} {H : Hp} {x : V} (h : Gv te σ H x) (k : ∀ H', Same H H' → g x σ H' (r D)) : tSeq (tAsg te g) r D σ H := h _ k
theorem asg_gv {te : TE} {g : TG} {D : Ends} {σ : L2.St} {H : Hp} {x : V} (h : Gv te σ H x) (k : ∀ H', Same H H' → g x σ H' D.nx) : tAsg te g D σ H := h _ k
theorem if_gt {c : TT} {t u : TS} {D : Ends} {σ : L2.St} {H : Hp} (b : Bool) (h : Gt c σ H b) (hT : b = true → ∀ H', Same H H' → t D σ H') (hF : b = false → ∀ H', Same H H' → u D σ H') : tIfS c t u D σ H := h _ fun H' s => (by
  cases b
  · exact iteF (hF rfl _ s)
  · exact iteT (hT rfl _ s))
theorem seq_if_gt {c : TT} {t u r : TS} {D : Ends} {σ : L2.St} {H : Hp} (b : Bool) (h : Gt c σ H b) (hT : b = true → ∀ H', Same H H' → t { D with nx := r D } σ H') (hF : b = false → ∀ H', Same H H' → u { D with nx := r D } σ H') : tSeq (tIfS c t u) r D σ H := if_gt b h hT hF
/-- a new tuple, a new list; the heap behind it by what stands in it -/
theorem new_tup {H : Hp} {xs : List V} {Q : VK} (hz : xs.length ≤ sizeLine) (k : ∀ p H', H p = none → Same H H' → H' p = some (.tup xs) → Q (.ref p) H') : xs.length ≤ sizeLine ∧ ∀ p, H p = none → Q (.ref p) (upd H p (.tup xs)) :=
  ⟨hz, fun p hp => k p _ hp (Same.new hp) upd_same⟩
theorem new_lst {H : Hp} {xs : List V} {Q : VK} (hz : xs.length ≤ sizeLine) (k : ∀ p H', H p = none → Same H H' → H' p = some (.lst xs) → Q (.ref p) H') : xs.length ≤ sizeLine ∧ ∀ p, H p = none → Q (.ref p) (upd H p (.lst xs)) :=
  ⟨hz, fun p hp => k p _ hp (Same.new hp) upd_same⟩
theorem Drw.same {H H' : Hp} {st c : Addr} {ns : List Int} (h : Drw H st c ns) (s : Same H H') : Drw H' st c ns := by
  obtain ⟨hc, n, v, b, h0, hs⟩ := h
  exact ⟨s _ _ hc, n, v, b, h0, s _ _ hs⟩
theorem Drw.nst {H : Hp} {st c p : Addr} {ns : List Int} (h : Drw H st c ns) (hp : H p = none) : p ≠ st := fun z => by
  obtain ⟨_, _, _, _, _, hs⟩ := h
  rw [z, hs] at hp
  cases hp
theorem Drw.at {H : Hp} {st c : Addr} {ns : List Int} (h : Drw H st c ns) : ∃ o, H st = some o := by
  obtain ⟨_, _, _, _, _, hs⟩ := h
  exact ⟨_, hs⟩
theorem But.tr' {p : Addr} {H H1 H2 : Hp} (a : But p H H1) (s : Same H1 H2) : But p H H2 := fun x o e n => s x o (a x o e n)
/-- what is new now was new before -/
theorem But.free {p q : Addr} {H H1 : Hp} (a : But p H H1) (n : q ≠ p) (h : H1 q = none) : H q = none := by
  cases e : H q with
  | none => rfl
  | some o =>
    rw [a q o e n] at h
    cases h
end My

set_option Elab.async false
set_option maxRecDepth 100000
set_option maxHeartbeats 4000000
set_option linter.all false
namespace C79
open PySem L2 My M78
abbrev sHanded : Stmt := top 47
abbrev nHanded : List Str := ["_law_state", "_law_thing", "_law_parts", "_law_part"]
theorem scHanded : FnScope nHanded ["_law_state", "_law_thing"] (defScope sHanded) := ⟨rfl, rfl, rfl, by decide +kernel, rfl, by decide +kernel, by decide +kernel⟩

mutual
/-- the same thing, each list or tuple in it a list or a tuple -/
inductive Hnd : PyData → PyData → Prop
  | leaf {d : PyData} : lt2 d = false → Hnd d d
  | seq {d d' : PyData} {ds ds' : List PyData} : Sq2 d ds → Sq2 d' ds' → HndAll ds ds' → Hnd d d'
inductive HndAll : List PyData → List PyData → Prop
  | nil : HndAll [] []
  | cons {d d' : PyData} {ds ds' : List PyData} : Hnd d d' → HndAll ds ds' → HndAll (d :: ds) (d' :: ds')
end
theorem HndAll.snoc : ∀ {ds ds' : List PyData} {d d' : PyData}, HndAll ds ds' → Hnd d d' → HndAll (ds ++ [d]) (ds' ++ [d'])
  | _, _, _, _, .nil, h => .cons h .nil
  | _, _, _, _, .cons h q, e => .cons h (HndAll.snoc q e)
theorem HndAll.len : ∀ {ds ds' : List PyData}, HndAll ds ds' → ds'.length = ds.length
  | _, _, .nil => rfl
  | _, _, .cons _ q => by rw [List.length_cons, List.length_cons, HndAll.len q]
theorem leaf_any {m z : Addr} {H H' : Hp} {x : V} {d : PyData} (h : At m H x d) (l : lt2 d = false) : At z H' x d := by
  cases h with
  | non => exact .non
  | bl b => exact .bl b
  | int i => exact .int i
  | str s => exact .str s
  | lst _ _ _ => cases l
  | tup _ _ _ => cases l
theorem lev_sq {n : Nat} {d : PyData} {ds : List PyData} (h : Lev n d) (s : Sq2 d ds) : ∃ n', n = n' + 1 ∧ ds.length ≤ 5000000 ∧ ∀ x, x ∈ ds → Lev n' x := by
  rcases s with rfl | rfl
  · cases h with
    | lst a b => exact ⟨_, rfl, a, b⟩
  · cases h with
    | tup a b => exact ⟨_, rfl, a, b⟩
theorem lt2_sq {d : PyData} (h : lt2 d = true) : ∃ ds, Sq2 d ds := by
  cases d <;> first | exact ⟨_, .inl rfl⟩ | exact ⟨_, .inr rfl⟩ | cases h
section
variable {P : Program} {w : World} {K : PySem.W.Frag} {mg : Str → Option Value} {base : Heap}

def spHanded (n : Nat) : Sp := fun vs H Q _ => ∃ (st c : Addr) (ns : List Int) (x : V) (d : PyData), vs = [.ref st, x] ∧ Drw H st c ns ∧ ns.length ≤ 63 ∧ At st H x d ∧ Lev n d ∧
  ∀ (y : V) (d' : PyData) (H' : Hp), Hnd d d' → (∀ z o, H z = some o → At z H' y d') → Drw H' st c ns → But st H H' → Q y H'
def spH : Nat → Sp
  | 0 => fun _ _ _ _ => False
  | n + 1 => spHanded n
theorem step_handed (D : Df K mg "_law_handed" sHanded ["_law_state", "_law_thing"]) (T : Ty mg) (PT : Pr P w K mg base 2 "_law_take" ["_law_state", "_law_many"] spTake) {n : Nat} (PH : Pr P w K mg base (n + 2) "_law_handed" ["_law_state", "_law_thing"] (spH n)) :
    Pr P w K mg base (n + 3) "_law_handed" ["_law_state", "_law_thing"] (spHanded n) := by
  refine D.pr scHanded (fun vs H Q E h => ?_) (fun f cdv A outer s H vs Q E hr h => ?_)
  · obtain ⟨st, c, ns, x, d, rfl, _⟩ := h
    rfl
  · obtain ⟨st, c, ns, x, d, rfl, dr, hns, ax, lv, k⟩ := h
    have nd := scHanded.nd
    have hr2 := hr.mono (show 2 ≤ n + 2 by omega)
    refine ⟨_, (pss_cons (ps_if (pt_not (pt_val (pe_callB call_isiT (by rfl) T.isinstance (by decide +kernel) (pa_cons (pv 1) (pa_cons (pe_tup (pa_cons (pe_bltn (v := .ty "list") (by rfl) T.list (by decide +kernel) rfl) (pa_cons (pe_bltn (v := .ty "tuple") (by rfl) T.tuple (by decide +kernel) rfl) pa_nil))) pa_nil)))))
        (pss_one (ps_ret (pv 1)))
        pss_nil)
      (pss_cons (ps_setLc (i := 2) (own := [("_law_part", 3)]) (g := gName 3) (tt := tYes) (by rfl) nd rfl rfl (sw_true rfl rfl rfl (by decide +kernel)) (pi_sq (pv 1))
  (blkOk_by (own := [("_law_part", 3)]) (N := nHanded) (sc := defScope sHanded) (by decide +kernel))
  (fun _ _ _ _ _ => pg_name (i := 3) nd rfl (Or.inl rfl) (Or.inr rfl)) (fun _ _ _ _ _ => pts_nil)
  (fun _ _ _ _ _ => (pe_callP PH hr (by rfl) (pa_cons (pv 0) (pa_cons (pv 3) pa_nil)))))
      (pss_one (ps_ret (pe_ix ix_list (pe_lst (pa_cons (pv 2) (pa_cons (pe_callTy call_tuple_of (by rfl) T.tuple (by decide +kernel) (pa_cons (pv 2) pa_nil)) pa_nil))) (pe_callP PT hr2 (by rfl) (pa_cons (pv 0) (pa_cons pe_int pa_nil))) (fun _ _ => rfl)))))), ?_⟩
    refine ⟨_, rfl, (by show 2 ≤ sizeLine; decide), fun tp ntp => ?_⟩
    generalize htp : upd H tp _ = H1
    have stp : Same H H1 := htp ▸ Same.new ntp
    have etp : H1 tp = some (.tup [.ty "list", .ty "tuple"]) := htp ▸ upd_same
    clear htp
    have ax1 := ax.mono (Same.but (m := st) stp)
    refine ⟨_, _, _, _, _, lt2 d, rfl, etp, cls_all ["list", "tuple"], ax1.ty, kit_any ?_, ?_⟩
    · cases ax
      · exact k_NoneType_lt
      · exact k_bool_lt
      · exact k_int_lt
      · exact k_str_lt
      · exact k_list_lt
      · exact k_tuple_lt
    refine ⟨_, rfl, ?_⟩
    cases hlt : lt2 d
    · refine iteT ⟨_, rfl, k x d _ (.leaf hlt) (fun z o _ => leaf_any ax hlt) (dr.same stp) (Same.but stp)⟩
    refine iteF ?_
    obtain ⟨ds, sq⟩ := lt2_sq hlt
    obtain ⟨n', rfl, lds, lev⟩ := lev_sq lv sq
    obtain ⟨a, us, rfl, na, hsq, aus⟩ := sq.at ax1
    have lus : us.length = ds.length := aus.length
    have dr1 := dr.same stp
    refine isq (a := a) (us := us) (fun Q q => ⟨_, rfl, q⟩) hsq (fun J G W hG => fun Dl hD => ?_)
    have nD : Dl ≠ st := dr1.nst hD
    refine lc_it W (fun i H2 => But st H1 H2 ∧ Drw H2 st c ns ∧ ∃ (vs : List V) (es : List PyData), HndAll (ds.take i) es ∧ H2 Dl = some (.lst vs) ∧ AtAll Dl H2 vs es ∧ ∀ z o, H1 z = some o → AtAll z H2 vs es) ?_ ?_ ?_ ?_
    · exact ⟨(But.refl st H1).new hD, dr1.new hD, [], [], .nil, upd_same, .nil, fun _ _ _ => .nil⟩
    · rintro i H2 _ ⟨b2, _⟩
      exact hG _ (fun o e => b2 _ _ e na)
    · rintro i y H9 H2 hi ⟨b2, dr2, vs, es, hes, hl, aD, aZ⟩ ⟨rfl, er⟩
      obtain ⟨de, e1, ae⟩ := aus.get er
      have ld : Lev n' de := lev de (List.mem_of_getElem? e1)
      refine ⟨rfl, ?_⟩
      refine ⟨_, rfl, _, rfl, ?_⟩
      refine ⟨st, c, ns, y, de, rfl, dr2, hns, ae.mono b2, ld, fun y' d' H3 hh hz dr3 b3 => ?_⟩
      obtain ⟨o1, hst1⟩ := dr1.at
      obtain ⟨o2, hst2⟩ := dr2.at
      have aS2 := aZ _ _ hst1
      have hl3 := b3 _ _ hl nD
      have lvs : vs.length = i := by
        rw [aD.length, hes.len, List.length_take]
        omega
      have aD3 : AtAll Dl H3 (vs ++ [y']) (es ++ [d']) := (aD.but2 (But2.ofM b3).swap aS2).append (hz _ _ hl)
      have aZ3 : ∀ z o, H1 z = some o → AtAll z H3 (vs ++ [y']) (es ++ [d']) := fun z o hz1 => by
        refine ((aZ z o hz1).but2 (But2.ofM b3).swap aS2).append ?_
        by_cases hzs : z = st
        · subst hzs
          exact hz _ _ hst2
        · exact hz _ _ (b2 _ _ hz1 hzs)
      refine ⟨vs, hl3, (by rw [lvs]; exact Nat.lt_of_lt_of_le (show i < 5000000 by omega) (by decide)), ?_, ?_, vs ++ [y'], es ++ [d'], ?_, upd_same, ?_, ?_⟩
      · intro b u e nb
        rw [upd_ne (ne_of_none e hD)]
        exact b3 _ _ (b2 _ _ e nb) nb
      · obtain ⟨hc, n', v', b', h0', hs⟩ := dr3
        exact ⟨by rw [upd_ne (ne_of_none dr1.1 hD)]; exact hc, n', v', b', h0', by rw [upd_ne (Ne.symm nD)]; exact hs⟩
      · rw [take_succ' e1]
        exact hes.snoc hh
      · exact aD3.but2 (fun x u e n1 _ => by rw [upd_ne n1]; exact e) aD3
      · intro z o hz1
        exact (aZ3 z o hz1).but2 But2.upd aD3
    · rintro H2 ⟨b2, dr2, vs, es, hes, hl, aD, aZ⟩
      rw [lus, List.take_length] at hes
      have bb2 : But st H H2 := (Same.but stp).trans b2
      refine ⟨_, rfl, _, rfl, _, _, rfl, .inl ⟨SqL.of hl, fun q hq => ?_⟩⟩
      have s3 := same_new (o := .tup vs) hq
      have e3 : upd H2 q (.tup vs) q = some (.tup vs) := upd_same
      generalize upd H2 q (.tup vs) = H3 at s3 e3 ⊢
      refine ⟨(by show 2 ≤ sizeLine; decide), fun L nL => ?_⟩
      generalize hL : upd H3 L _ = H4
      have sL : Same H3 H4 := hL ▸ Same.new nL
      have eL : H4 L = some (.lst [.ref Dl, .ref q]) := hL ▸ upd_same
      clear hL
      have s4 := Same.tr s3 sL
      refine ⟨_, rfl, st, c, ns, 2, rfl, dr2.same s4, hns, (by decide), (by decide), fun j H5 hj0 hj2 dr5 b5 => ?_⟩
      have b25 : But st H2 H5 := (Same.but s4).trans b5
      have nL : L ≠ st := (dr2.same s3).nst nL
      have nq : q ≠ st := dr2.nst hq
      have bb5 := bb2.trans b25
      obtain ⟨o1, hst1⟩ := dr1.at
      have aS2 := aZ _ _ hst1
      have up : ∀ z o, H z = some o → AtAll z H5 vs es ∧ z ≠ Dl ∧ z ≠ q := fun z o hz => by
        have hz1 := stp _ _ hz
        refine ⟨(aZ z o hz1).but2 (But2.ofM b25).swap aS2, ne_of_none hz1 hD, ?_⟩
        by_cases hzs : z = st
        · rw [hzs]
          exact Ne.symm nq
        · exact ne_of_none (b2 _ _ hz1 hzs) hq
      rcases (show j = 0 ∨ j = 1 by omega) with rfl | rfl
      · refine ⟨_, _, _, _, rfl, rfl, SqL.of (b5 _ _ eL nL), rfl, ?_⟩
        exact k _ (.list es) _ (.seq sq (.inl rfl) hes) (fun z o hz => .lst (Ne.symm (up z o hz).2.1) (b25 _ _ hl nD) (up z o hz).1) dr5 bb5
      · refine ⟨_, _, _, _, rfl, rfl, SqL.of (b5 _ _ eL nL), rfl, ?_⟩
        exact k _ (.tuple es) _ (.seq sq (.inr rfl) hes) (fun z o hz => .tup (Ne.symm (up z o hz).2.2) (b5 _ _ (sL _ _ e3) nq) (up z o hz).1) dr5 bb5
theorem pr_handed (D : Df K mg "_law_handed" sHanded ["_law_state", "_law_thing"]) (T : Ty mg) (PT : Pr P w K mg base 2 "_law_take" ["_law_state", "_law_many"] spTake) : ∀ n, Pr P w K mg base (n + 2) "_law_handed" ["_law_state", "_law_thing"] (spH n)
  | 0 => by
    obtain ⟨f, fd, F, b, g⟩ := D
    exact ⟨f, fd, ⟨fun _ _ _ _ h => h.elim, fun _ _ _ _ _ _ _ _ _ _ _ _ _ h => h.elim⟩, g, F.kp, b⟩
  | n + 1 => step_handed D T PT (pr_handed D T PT n)
end
end C79

set_option Elab.async false
set_option maxRecDepth 100000
set_option maxHeartbeats 4000000
set_option linter.all false
namespace C79
open PySem L2 My M78
abbrev sScript : Stmt := top 44
abbrev nScript : List Str := ["_law_state", "_law_many", "_law_found", "_law_opened", "_law_reads", "_law_usual", "_law_upto", "_law_k", "_law_some", "_law_word_here"]
theorem scScript : FnScope nScript ["_law_state", "_law_many"] (defScope sScript) := ⟨rfl, rfl, rfl, by decide +kernel, rfl, by decide +kernel, by decide +kernel⟩

theorem flg_succ {sc : List Wd} {p : Nat} {v : Wd} (h : sc[p]? = some v) : flg sc (p + 1) = (opB v (flg sc p).1, rdB v (flg sc p).2) := by
  show (match sc[p]? with | some v => (opB v (flg sc p).1, rdB v (flg sc p).2) | none => flg sc p) = _
  rw [h]
def bO (v : Wd) (o : Bool) : Bool := !isEn v && (o || isOp v)
def bR (v : Wd) (r : Bool) : Bool := !decide (v = .sto) && (r || decide (v = .sta))
def wV (ws : List Wd) : List V := ws.map fun v => V.str (wS v)
theorem flat_words (ws : List Wd) : (wV ws).all flatV = true := List.all_eq_true.mpr fun x hx => by
  obtain ⟨v, _, rfl⟩ := List.mem_map.mp hx
  rfl
theorem eqV_w (v u : Wd) : eqV (.str (wS v)) (.str (wS u)) = decide (v = u) := by cases v <;> cases u <;> decide +kernel
theorem in_words {u : Wd} {ws : List Wd} (h : inV (.str (wS u)) (wV ws) = true) : u ∈ ws := by
  obtain ⟨y, hy, e⟩ := List.any_eq_true.mp h
  obtain ⟨v, hv, rfl⟩ := List.mem_map.mp hy
  rw [eqV_w] at e
  exact of_decide_eq_true e ▸ hv
def someW (o r : Bool) : List Wd := [.rea, .wri, if r then .sto else .sta] ++ (if o then [.com, .rol, .rea, .wri, .com] else [.beg, .beg, .imm, .exc])
theorem some_ok {v : Wd} {o r : Bool} (h : v ∈ someW o r) : okW v o r = true := by
  revert h
  cases o <;> cases r <;> cases v <;> decide
theorem bO_is (v : Wd) (o : Bool) : bO v o = opB v o := by cases v <;> cases o <;> rfl
theorem bR_is (v : Wd) (r : Bool) : bR v r = rdB v r := by cases v <;> cases r <;> rfl
theorem flg_app (sc ys : List Wd) : ∀ {n : Nat}, n ≤ sc.length → flg (sc ++ ys) n = flg sc n
  | 0, _ => rfl
  | n + 1, h => by
    show (match (sc ++ ys)[n]? with | some v => (opB v (flg (sc ++ ys) n).1, rdB v (flg (sc ++ ys) n).2) | none => flg (sc ++ ys) n) = (match sc[n]? with | some v => (opB v (flg sc n).1, rdB v (flg sc n).2) | none => flg sc n)
    rw [List.getElem?_append_left (by omega), flg_app sc ys (by omega)]
def okAll (sc : List Wd) : Prop := ∀ n v, sc[n]? = some v → okW v (flg sc n).1 (flg sc n).2 = true
theorem okAll.snoc {sc : List Wd} {v : Wd} (h : okAll sc) (hv : okW v (flg sc sc.length).1 (flg sc sc.length).2 = true) : okAll (sc ++ [v]) := fun n u e => by
  by_cases hn : n < sc.length
  · rw [List.getElem?_append_left hn] at e
    rw [flg_app sc [v] (by omega)]
    exact h n u e
  · have : n = sc.length := by
      have := (List.getElem?_eq_some_iff.mp e).1
      simp at this
      omega
    subst this
    rw [flg_app sc [v] (Nat.le_refl _)]
    simp at e
    subst e
    exact hv
theorem at_words {m : Addr} {H : Hp} : ∀ ws : List Wd, AtAll m H (wV ws) (scE ws)
  | [] => .nil
  | v :: r => .cons (.str _) (at_words r)
section
variable {P : Program} {w : World} {K : PySem.W.Frag} {mg : Str → Option Value} {base : Heap}

def spScript : Sp := fun vs H Q _ => ∃ (st c : Addr) (ns : List Int) (n : Nat), vs = [.ref st, .int (n : Int)] ∧ Drw H st c ns ∧ ns.length ≤ 63 ∧ n ≤ 8 ∧
  ∀ (sc : List Wd) (q : Addr) (H' : Hp), okScr sc → H q = none → H' q = some (.tup (wV sc)) → Drw H' st c ns → But st H H' → Q (.ref q) H'
theorem pr_script (D : Df K mg "_law_script" sScript ["_law_state", "_law_many"]) (T : Tx mg) (T2 : Ty mg) (TR : mg "range" = none) (TM : mg "min" = none) (PT : Pr P w K mg base 2 "_law_take" ["_law_state", "_law_many"] spTake) (PO : Pr P w K mg base 3 "_law_one" ["_law_state", "_law_things"] (spOne K)) :
    Pr P w K mg base 4 "_law_script" ["_law_state", "_law_many"] spScript := by
  refine D.pr scScript (fun vs H Q E h => ?_) (fun f cdv A outer s H vs Q E hr h => ?_)
  · obtain ⟨st, c, ns, n, rfl, _⟩ := h
    rfl
  · obtain ⟨st, c, ns, n, rfl, dr, hns, hn8, k⟩ := h
    have nd := scScript.nd
    have hr2 := hr.mono (show 2 ≤ 3 by decide)
    refine ⟨_, (pss_cons (ps_par3 (by rfl) nd (i := 2) (j := 3) (l := 4) rfl rfl rfl (by decide) (by decide) (by decide) rfl rfl rfl (pa_cons (pe_lst pa_nil) (pa_cons pe_bl (pa_cons pe_bl pa_nil))) (by rfl))
      (pss_cons (ps_asg (pe_callP PO hr (by rfl) (pa_cons (pv 0) (pa_cons (pe_lst (pa_cons (pe_tup (pa_cons pe_str (pa_cons pe_str (pa_cons pe_str (pa_cons pe_str pa_nil))))) (pa_cons (pe_tup (pa_cons pe_str (pa_cons pe_str (pa_cons pe_str pa_nil)))) (pa_cons (pe_tup (pa_cons pe_str (pa_cons pe_str pa_nil))) (pa_cons (pe_tup (pa_cons pe_str (pa_cons pe_str (pa_cons pe_str pa_nil)))) (pa_cons (pe_tup (pa_cons pe_str (pa_cons pe_str (pa_cons pe_str pa_nil)))) (pa_cons (pe_tup (pa_cons pe_str (pa_cons pe_str (pa_cons pe_str pa_nil)))) pa_nil))))))) pa_nil))) (pg_name (i := 5) nd rfl (Or.inl rfl)))
      (pss_cons (ps_asg (pe_callP PT hr2 (by rfl) (pa_cons (pv 0) (pa_cons (pe_op op_mul pe_int (pe_callB call_len (by rfl) T.len PySem.boot_len (pa_cons (pv 5) pa_nil))) pa_nil))) (pg_name (i := 6) nd rfl (Or.inl rfl)))
      (pss_cons (ps_for PassesOwn.never rfl (pi_range1 rfl TR (pa_cons (pe_op op_sub (pv 1) (pe_op op_mul (pe_callP PT hr2 (by rfl) (pa_cons (pv 0) (pa_cons pe_int pa_nil))) (pe_callTy call_int1 (by rfl) T.int (by decide +kernel) (pa_cons (pe_cmpR op_gt (pv 1) pe_int (nomark _)) pa_nil)))) pa_nil)) (pg_name (i := 7) nd rfl (Or.inl rfl))
        (pss_cons (ps_asg (pe_lst (pa_cons pe_str (pa_cons pe_str (pa_cons (pe_ix ix_tup (pe_tup (pa_cons pe_str (pa_cons pe_str pa_nil))) (pe_callTy call_int1 (by rfl) T.int (by decide +kernel) (pa_cons (pv 4) pa_nil)) (fun _ _ => rfl)) pa_nil)))) (pg_name (i := 8) nd rfl (Or.inl rfl)))
        (Evl.pss_cut (ps_if (pt_val (pv 3))
          (pss_one (ps_asg (pe_op op_cat (pv 8) (pe_lst (pa_cons pe_str (pa_cons pe_str (pa_cons pe_str (pa_cons pe_str (pa_cons pe_str pa_nil))))))) (pg_name (i := 8) nd rfl (Or.inl rfl))))
          (pss_one (ps_asg (pe_op op_cat (pv 8) (pe_lst (pa_cons pe_str (pa_cons pe_str (pa_cons pe_str (pa_cons pe_str pa_nil)))))) (pg_name (i := 8) nd rfl (Or.inl rfl)))))
        (pss_cons (ps_asg (pe_callP PO hr (by rfl) (pa_cons (pv 0) (pa_cons (pv 8) pa_nil))) (pg_name (i := 9) nd rfl (Or.inl rfl)))
        (Evl.pss_cut (ps_if (PW.pt (pw_and (pt_cmpR op_lt (pv 7) (pe_callB (call_min2 rfl) (by rfl) TM (by decide +kernel) (pa_cons (pv 6) (pa_cons (pe_callB call_len (by rfl) T.len PySem.boot_len (pa_cons (pv 5) pa_nil)) pa_nil))) (nomark _)) (pw_and1 (pt_cmpR op_in_seq (pe_ix ix_tup (pv 5) (pv 7) (fun _ _ => rfl)) (pv 8) (by rfl)))))
          (pss_one (ps_asg (pe_ix ix_tup (pv 5) (pv 7) (fun _ _ => rfl)) (pg_name (i := 9) nd rfl (Or.inl rfl))))
          pss_nil)
        (pss_cons (ps_expr (pe_bm PySem.F.plainAttrs_list PySem.F.slot_list_append PySem.F.type_list_append mt_append (pv 2) (pa_cons (pv 9) pa_nil)))
        (pss_cons (ps_asg (pe_and (pe_cmpR op_notIn_seq (pv 9) (pe_tup (pa_cons pe_str (pa_cons pe_str pa_nil))) (by rfl)) (pe_one (pe_or (pv 3) (pe_one (pe_cmpR op_in_seq (pv 9) (pe_tup (pa_cons pe_str (pa_cons pe_str (pa_cons pe_str pa_nil)))) (by rfl)))))) (pg_name (i := 3) nd rfl (Or.inl rfl)))
        (pss_one (ps_asg (pe_and (pe_cmpR op_ne (pv 9) pe_str (nomark _)) (pe_one (pe_or (pv 4) (pe_one (pe_cmpR op_eq (pv 9) pe_str (nomark _)))))) (pg_name (i := 4) nd rfl (Or.inl rfl)))))))))))
      (pss_one (ps_ret (pe_callTy call_tuple_of (by rfl) T2.tuple (by decide +kernel) (pa_cons (pv 2) pa_nil)))))))), ?_⟩
    refine ⟨(by show 0 ≤ sizeLine; decide), fun F hF => ⟨_, _, _, rfl, ?_⟩⟩
    have sF := same_new (o := HO.lst []) hF
    have eF : upd H F (.lst []) F = some (.lst []) := upd_same
    generalize upd H F (.lst []) = H0 at sF eF ⊢
    have dr0 := dr.same sF
    have nF : F ≠ st := dr.nst hF
    have b0 : But st H H0 := Same.but sF
    -- usual
    refine ⟨_, rfl, (by show 4 ≤ sizeLine; decide), fun T1 nT1 => ?_⟩
    generalize hT1 : upd H0 T1 _ = H1
    have s1 : Same H0 H1 := hT1 ▸ Same.new nT1
    have e1 : H1 T1 = some (.tup [.str (Str.ofString "begin"), .str (Str.ofString "read"), .str (Str.ofString "write"), .str (Str.ofString "commit")]) := hT1 ▸ upd_same
    clear hT1
    refine ⟨(by show 3 ≤ sizeLine; decide), fun T3 nT3 => ?_⟩
    generalize hT3 : upd H1 T3 _ = H3
    have s3 : Same H1 H3 := hT3 ▸ Same.new nT3
    have e3 : H3 T3 = some (.tup [.str (Str.ofString "immediate"), .str (Str.ofString "write"), .str (Str.ofString "commit")]) := hT3 ▸ upd_same
    clear hT3
    refine ⟨(by show 2 ≤ sizeLine; decide), fun T4 nT4 => ?_⟩
    generalize hT4 : upd H3 T4 _ = H4
    have s4 : Same H3 H4 := hT4 ▸ Same.new nT4
    have e4 : H4 T4 = some (.tup [.str (Str.ofString "write"), .str (Str.ofString "read")]) := hT4 ▸ upd_same
    clear hT4
    refine ⟨(by show 3 ≤ sizeLine; decide), fun T5 nT5 => ?_⟩
    generalize hT5 : upd H4 T5 _ = H5
    have s5 : Same H4 H5 := hT5 ▸ Same.new nT5
    have e5 : H5 T5 = some (.tup [.str (Str.ofString "start"), .str (Str.ofString "begin"), .str (Str.ofString "write")]) := hT5 ▸ upd_same
    clear hT5
    refine ⟨(by show 3 ≤ sizeLine; decide), fun T6 nT6 => ?_⟩
    generalize hT6 : upd H5 T6 _ = H6
    have s6 : Same H5 H6 := hT6 ▸ Same.new nT6
    have e6 : H6 T6 = some (.tup [.str (Str.ofString "begin"), .str (Str.ofString "read"), .str (Str.ofString "commit")]) := hT6 ▸ upd_same
    clear hT6
    refine ⟨(by show 3 ≤ sizeLine; decide), fun T7 nT7 => ?_⟩
    generalize hT7 : upd H6 T7 _ = H7
    have s7 : Same H6 H7 := hT7 ▸ Same.new nT7
    have e7 : H7 T7 = some (.tup [.str (Str.ofString "exclusive"), .str (Str.ofString "read"), .str (Str.ofString "commit")]) := hT7 ▸ upd_same
    clear hT7
    refine ⟨(by show 6 ≤ sizeLine; decide), fun T8 nT8 => ?_⟩
    generalize hT8 : upd H7 T8 _ = H8
    have s8 : Same H7 H8 := hT8 ▸ Same.new nT8
    have e8 : H8 T8 = some (.lst [.ref T1, .ref T3, .ref T4, .ref T5, .ref T6, .ref T7]) := hT8 ▸ upd_same
    clear hT8
    have s78 := s8
    have s68 := Same.tr s7 s78
    have s58 := Same.tr s6 s68
    have s48 := Same.tr s5 s58
    have s38 := Same.tr s4 s48
    have s18 := Same.tr s3 s38
    have s08 := Same.tr s1 s18
    have dr8 := dr0.same s08
    have q1 : ∀ x, x ∈ [V.ref T1, .ref T3, .ref T4, .ref T5, .ref T6, .ref T7] → ∃ u us, x = .ref u ∧ u ≠ st ∧ H8 u = some (.tup (wV us)) ∧ 0 < us.length ∧ us.length ≤ 4 := by
      intro x hx
      simp only [List.mem_cons, List.not_mem_nil, or_false] at hx
      rcases hx with rfl | rfl | rfl | rfl | rfl | rfl
      · exact ⟨T1, [.beg, .rea, .wri, .com], rfl, dr0.nst nT1, s18 _ _ e1, by decide, by decide⟩
      · exact ⟨T3, [.imm, .wri, .com], rfl, (dr0.same s1).nst nT3, s38 _ _ e3, by decide, by decide⟩
      · exact ⟨T4, [.wri, .rea], rfl, (dr0.same (Same.tr s1 s3)).nst nT4, s48 _ _ e4, by decide, by decide⟩
      · exact ⟨T5, [.sta, .beg, .wri], rfl, (dr0.same (Same.tr s1 (Same.tr s3 s4))).nst nT5, s58 _ _ e5, by decide, by decide⟩
      · exact ⟨T6, [.beg, .rea, .com], rfl, (dr0.same (Same.tr s1 (Same.tr s3 (Same.tr s4 s5)))).nst nT6, s68 _ _ e6, by decide, by decide⟩
      · exact ⟨T7, [.exc, .rea, .com], rfl, (dr0.same (Same.tr s1 (Same.tr s3 (Same.tr s4 (Same.tr s5 s6))))).nst nT7, s78 _ _ e7, by decide, by decide⟩
    refine ⟨st, c, T8, ns, _, rfl, dr8, hns, (dr0.same (Same.tr s1 (Same.tr s3 (Same.tr s4 (Same.tr s5 (Same.tr s6 s7)))))).nst nT8, .inl (SqL.of e8), (by show 0 < 6; decide), (by show 6 ≤ 10000; decide), fun x H9 hx dr9 b9 => ?_⟩
    obtain ⟨u, us, rfl, nu, hu8, hu1, hu4⟩ := q1 x hx
    have hu9 := b9 _ _ hu8 nu
    have hF9 : H9 F = some (.lst []) := b9 _ _ (s08 _ _ eF) nF
    have bb9 : But st H H9 := (b0.tr' s08).trans b9
    have lus : (wV us).length = us.length := List.length_map ..
    -- upto
    refine ⟨_, rfl, _, rfl, _, _, rfl, (Or.inr ⟨_, SqT.of hu9, rfl⟩), _, _, rfl, rfl, .inl ⟨by decide, by decide⟩, ?_⟩
    refine ⟨st, c, ns, _, rfl, dr9, hns, (by rw [lus]; omega), (by rw [lus]; omega), fun up H10 hup0 hup1 dr10 b10 => ?_⟩
    have hu10 := b10 _ _ hu9 nu
    have hF10 := b10 _ _ hF9 nF
    have bb10 : But st H H10 := bb9.trans b10
    -- the number of turns
    refine ⟨_, rfl, _, rfl, st, c, ns, 3, rfl, dr10, hns, (by decide), (by decide), fun d3 H11 hd0 hd3 dr11 b11 => ?_⟩
    have hu11 := b11 _ _ hu10 nu
    have hF11 := b11 _ _ hF10 nF
    have bb11 : But st H H11 := bb10.trans b11
    refine ⟨_, rfl, _, _, rfl, rfl, .inr ⟨_, rfl, _, _, rfl, rfl, .inl ⟨by omega, by omega⟩, _, _, rfl, rfl, _, rfl, ?_⟩⟩
    generalize hN : ((n : Nat) : Int) - d3 * (if decide (2 < ((n : Nat) : Int)) = true then 1 else 0) = N
    have hN8 : N ≤ 8 := by
      subst hN
      split <;> omega
    have hN0 : -10 ≤ N := by
      subst hN
      split <;> omega
    refine ⟨(by omega), (by omega), ?_⟩
    refine for_range (lo := 0) (n := N.toNat) (fun i σ H2 => But st H H2 ∧ Drw H2 st c ns ∧ H2 u = some (.tup (wV us)) ∧ ∃ (sc : List Wd) (v7 v8 v9 : Option V), sc.length = i ∧ okAll sc ∧ H2 F = some (.lst (wV sc)) ∧
      σ = [some (.ref st), some (.int (n : Int)), some (.ref F), some (.bl (flg sc i).1), some (.bl (flg sc i).2), some (.ref u), some (.int up), v7, v8, v9]) ?_ ?_ ?_
    · exact ⟨bb11, dr11, hu11, [], _, _, _, rfl, fun n v e => by simp at e, hF11, rfl⟩
    · rintro i σ H2 hi ⟨bH, drH, huH, sc, v7, v8, v9, hsc, hok, hFH, rfl⟩
      generalize ho : (flg sc i).1 = o
      generalize hrd : (flg sc i).2 = r
      rw [show (0 : Int) + (i : Nat) = ((i : Nat) : Int) by omega]
      -- some
      have hat : atI [V.str (Str.ofString "start"), .str (Str.ofString "stop")] (if r = true then 1 else 0) = some (.str (wS (if r then .sto else .sta))) := by cases r <;> rfl
      refine ⟨(by show 2 ≤ sizeLine; decide), fun P1 nP1 => ?_⟩
      generalize hP1 : upd H2 P1 _ = H3
      have t1 : Same H2 H3 := hP1 ▸ Same.new nP1
      have f1 : H3 P1 = some (.tup [.str (Str.ofString "start"), .str (Str.ofString "stop")]) := hP1 ▸ upd_same
      clear hP1
      refine ⟨_, rfl, .inr ⟨_, rfl, _, _, _, _, rfl, rfl, SqT.of f1, hat, ?_⟩⟩
      refine ⟨(by show 3 ≤ sizeLine; decide), fun P2 nP2 => ?_⟩
      generalize hP2 : upd H3 P2 _ = H4
      have t2 : Same H3 H4 := hP2 ▸ Same.new nP2
      have f2 : H4 P2 = some (.lst (wV [.rea, .wri, if r then .sto else .sta])) := hP2 ▸ upd_same
      clear hP2
      have t12 : Same H2 H4 := Same.tr t1 t2
      refine ⟨fun σ' H5 => Same H2 H5 ∧ ∃ P3, P3 ≠ st ∧ H5 P3 = some (.lst (wV (someW o r))) ∧ σ' = [some (.ref st), some (.int (n : Int)), some (.ref F), some (.bl o), some (.bl r), some (.ref u), some (.int up), some (.int (i : Int)), some (.ref P3), v9], ?_, ?_⟩
      · refine ⟨_, rfl, _, rfl, ?_⟩
        cases o
        · refine iteF ?_
          refine ⟨_, rfl, (by show 4 ≤ sizeLine; decide), fun P4 nP4 => ?_⟩
          generalize hP4 : upd H4 P4 _ = H5
          have t4 : Same H4 H5 := hP4 ▸ Same.new nP4
          have f4 : H5 P4 = some (.lst [.str (Str.ofString "begin"), .str (Str.ofString "begin"), .str (Str.ofString "immediate"), .str (Str.ofString "exclusive")]) := hP4 ▸ upd_same
          clear hP4
          refine ⟨_, _, _, _, rfl, rfl, t4 _ _ f2, f4, (by show 3 + 4 ≤ sizeLine; decide), fun P5 m5 => ?_⟩
          have t5 := Same.tr t12 t4
          exact ⟨Same.tr t5 (same_new m5), P5, (drH.same t5).nst m5, by rw [upd_same]; cases r <;> rfl, rfl⟩
        · refine iteT ?_
          refine ⟨_, rfl, (by show 5 ≤ sizeLine; decide), fun P4 nP4 => ?_⟩
          generalize hP4 : upd H4 P4 _ = H5
          have t4 : Same H4 H5 := hP4 ▸ Same.new nP4
          have f4 : H5 P4 = some (.lst [.str (Str.ofString "commit"), .str (Str.ofString "rollback"), .str (Str.ofString "read"), .str (Str.ofString "write"), .str (Str.ofString "commit")]) := hP4 ▸ upd_same
          clear hP4
          refine ⟨_, _, _, _, rfl, rfl, t4 _ _ f2, f4, (by show 3 + 5 ≤ sizeLine; decide), fun P5 m5 => ?_⟩
          have t5 := Same.tr t12 t4
          exact ⟨Same.tr t5 (same_new m5), P5, (drH.same t5).nst m5, by rw [upd_same]; cases r <;> rfl, rfl⟩
      rintro σ' H5 ⟨t5, P3, nP3, hP3, rfl⟩
      have lsome : (wV (someW o r)).length ≤ 10 ∧ 0 < (wV (someW o r)).length := by cases o <;> cases r <;> decide
      -- word
      refine ⟨_, rfl, _, rfl, st, c, P3, ns, _, rfl, drH.same t5, hns, nP3, .inl (SqL.of hP3), lsome.2, (by omega), fun x H6 hx dr6 b6 => ?_⟩
      obtain ⟨v0, hv0, rfl⟩ := List.mem_map.mp hx
      have hu6 := b6 _ _ (t5 _ _ huH) nu
      have hF6 := b6 _ _ (t5 _ _ hFH) nF
      have hP6 := b6 _ _ hP3 nP3
      have bH6 : But st H H6 := (bH.tr' t5).trans b6
      refine ⟨fun σ' H7 => H7 = H6 ∧ ∃ v ∈ someW o r, σ' = [some (.ref st), some (.int (n : Int)), some (.ref F), some (.bl o), some (.bl r), some (.ref u), some (.int up), some (.int (i : Int)), some (.ref P3), some (.str (wS v))], ?_, ?_⟩
      · refine ⟨_, rfl, _, rfl, _, rfl, _, _, rfl, (Or.inr ⟨_, SqT.of hu6, rfl⟩), _, _, rfl, _, _, rfl, rfl, _, rfl, ?_⟩
        refine ite2 (fun hk => ?_) (fun hk => ⟨rfl, v0, hv0, rfl⟩)
        have hk2 : i < us.length := by
          have := of_decide_eq_true hk
          rw [lus] at this
          split at this <;> omega
        have hat2 : (wV us)[i]? = some (.str (wS us[i])) := by
          unfold wV
          rw [List.getElem?_map, List.getElem?_eq_getElem hk2]
          rfl
        refine ⟨_, rfl, _, rfl, _, _, _, _, rfl, rfl, SqT.of hu6, atI_nat hat2, _, rfl, _, _, rfl, .inl (SqL.of hP6), rfl, flat_words _, _, rfl, ?_⟩
        refine ite2 (fun hin => ?_) (fun hin => ⟨rfl, v0, hv0, rfl⟩)
        exact ⟨_, rfl, _, rfl, _, _, _, _, rfl, rfl, SqT.of hu6, atI_nat hat2, rfl, us[i], in_words hin, rfl⟩
      rintro σ' H7 ⟨rfl, v, hv, rfl⟩
      -- found.append
      refine ⟨_, rfl, .inl ⟨rfl, _, SqL.of hF6⟩, _, rfl, _, _, _, rfl, rfl, hF6, (by show (List.map _ sc).length < sizeLine; rw [List.length_map]; exact small6 (by omega)), ?_⟩
      have dr7 : Drw (upd H7 F (.lst (wV sc ++ [.str (wS v)]))) st c ns := by
        have nc : c ≠ F := ne_of_none dr.1 hF
        obtain ⟨hc, n', v', b', h0', hs⟩ := dr6
        exact ⟨by rw [upd_ne nc]; exact hc, n', v', b', h0', by rw [upd_ne (Ne.symm nF)]; exact hs⟩
      have bH7 : But st H (upd H7 F (.lst (wV sc ++ [.str (wS v)]))) := fun b u' e nb => by
        rw [upd_ne (ne_of_none e hF)]
        exact bH6 b u' e nb
      have hu7 : (upd H7 F (.lst (wV sc ++ [.str (wS v)]))) u = some (.tup (wV us)) := by
        rw [upd_ne (ne_of hu6 hF6 (by intro z; cases z))]
        exact hu6
      have hF7 : (upd H7 F (.lst (wV sc ++ [.str (wS v)]))) F = some (.lst (wV (sc ++ [v]))) := by
        rw [upd_same]
        unfold wV
        rw [List.map_append]
        rfl
      generalize upd H7 F (.lst (wV sc ++ [.str (wS v)])) = H8 at dr7 bH7 hu7 hF7 ⊢
      dsimp only
      refine seq_asg_gv (x := .bl (bO v o)) (Gv.and (fun Q' kk => ?_) (fun H1 s1 => Gv.or (fun Q' kk => ⟨_, rfl, kk _ (Same.rfl' _)⟩) (fun H2 s2 Q' kk => ?_))) ?_
      · refine ⟨_, rfl, (by show 2 ≤ sizeLine; decide), fun tp htp => ?_⟩
        have sx := same_new (o := .tup [.str (Str.ofString "commit"), .str (Str.ofString "rollback")]) htp
        have ex := upd_same (H := H8) (a := tp) (o := .tup [.str (Str.ofString "commit"), .str (Str.ofString "rollback")])
        refine ⟨_, _, rfl, .inr (SqT.of ex), rfl, rfl, ?_⟩
        rw [in_en v]
        exact kk _ sx
      · refine ⟨_, rfl, (by show 3 ≤ sizeLine; decide), fun tp htp => ?_⟩
        have sx := same_new (o := .tup [.str (Str.ofString "begin"), .str (Str.ofString "immediate"), .str (Str.ofString "exclusive")]) htp
        have ex := upd_same (H := H2) (a := tp) (o := .tup [.str (Str.ofString "begin"), .str (Str.ofString "immediate"), .str (Str.ofString "exclusive")])
        refine ⟨_, _, rfl, .inr (SqT.of ex), rfl, rfl, ?_⟩
        rw [in_op v]
        exact kk _ sx
      intro H12 s12
      dsimp only [gName]
      refine asg_gv (x := .bl (bR v r)) (Gv.and (fun Q' kk => ?_) (fun H1 s1 => Gv.or (fun Q' kk => ⟨_, rfl, kk _ (Same.rfl' _)⟩) (fun H2 s2 Q' kk => ?_))) ?_
      · refine ⟨_, rfl, rfl, ?_⟩
        rw [show decide (V.str (wS v) = V.str (Str.ofString "stop")) = decide (v = .sto) from eqW v .sto]
        exact kk _ (Same.rfl' _)
      · refine ⟨_, rfl, rfl, ?_⟩
        rw [show decide (V.str (wS v) = V.str (Str.ofString "start")) = decide (v = .sta) from eqW v .sta]
        exact kk _ (Same.rfl' _)
      intro H13 s13
      have s14 : Same H8 H13 := Same.tr s12 s13
      have hfl : flg (sc ++ [v]) (i + 1) = (bO v o, bR v r) := by
        have := flg_succ (sc := sc ++ [v]) (p := i) (v := v) (by rw [← hsc]; simp)
        rw [this, flg_app sc [v] (by omega), ho, hrd, bO_is, bR_is]
      refine ⟨bH7.tr' s14, dr7.same s14, s14 _ _ hu7, sc ++ [v], some (.int (i : Int)), some (.ref P3), some (.str (wS v)), by rw [List.length_append, hsc]; rfl, hok.snoc (by rw [hsc, ho, hrd]; exact some_ok hv), s14 _ _ hF7, ?_⟩
      rw [hfl]
      rfl
    · rintro σ H2 ⟨bH, drH, huH, sc, v7, v8, v9, hsc, hok, hFH, rfl⟩
      refine ⟨_, rfl, _, _, rfl, .inl ⟨SqL.of hFH, fun q hq => ?_⟩⟩
      have nq := drH.nst hq
      exact k sc q _ ⟨by omega, hok⟩ (bH.free nq hq) upd_same (drH.new hq) (bH.new hq)
end
end C79

set_option Elab.async false
set_option maxRecDepth 100000
set_option maxHeartbeats 4000000
set_option linter.all false
namespace C79
open PySem L2 My M78
abbrev sScripts : Stmt := top 45
abbrev nScripts : List Str := ["_law_state", "_law_most", "_law_many", "_law_k"]
theorem scScripts : FnScope nScripts ["_law_state", "_law_most", "_law_many"] (defScope sScripts) := ⟨rfl, rfl, rfl, by decide +kernel, rfl, by decide +kernel, by decide +kernel⟩
section
variable {P : Program} {w : World} {K : PySem.W.Frag} {mg : Str → Option Value} {base : Heap}

def spScripts : Sp := fun vs H Q _ => ∃ (st c : Addr) (ns : List Int) (most n : Nat), vs = [.ref st, .int (most : Int), .int (n : Int)] ∧ Drw H st c ns ∧ ns.length ≤ 63 ∧ n ≤ 8 ∧ 0 < most ∧ most ≤ 4 ∧
  ∀ (ss : List (List Wd)) (q : Addr) (H' : Hp), 1 ≤ ss.length → ss.length ≤ most → (∀ sc ∈ ss, okScr sc) → At st H' (.ref q) (scD ss) → Drw H' st c ns → But st H H' → Q (.ref q) H'
theorem pr_scripts (D : Df K mg "_law_scripts" sScripts ["_law_state", "_law_most", "_law_many"]) (T2 : Ty mg) (TR : mg "range" = none) (PT : Pr P w K mg base 2 "_law_take" ["_law_state", "_law_many"] spTake) (PS : Pr P w K mg base 4 "_law_script" ["_law_state", "_law_many"] spScript) :
    Pr P w K mg base 5 "_law_scripts" ["_law_state", "_law_most", "_law_many"] spScripts := by
  refine D.pr scScripts (fun vs H Q E h => ?_) (fun f cdv A outer s H vs Q E hr h => ?_)
  · obtain ⟨st, c, ns, most, n, rfl, _⟩ := h
    rfl
  · obtain ⟨st, c, ns, most, n, rfl, dr, hns, hn8, hm0, hm4, k⟩ := h
    have nd := scScripts.nd
    have hr2 := hr.mono (show 2 ≤ 4 by decide)
    refine ⟨_, (pss_one (ps_ret (pe_callTy call_tuple_of (by rfl) T2.tuple (by decide +kernel) (pa_cons (pe_lc (own := [("_law_k", 3)]) (g := gName 3) (tt := tYes) (by rfl) nd (pi_range1 rfl TR (pa_cons (pe_op op_add pe_int (pe_callP PT hr2 (by rfl) (pa_cons (pv 0) (pa_cons (pv 1) pa_nil)))) pa_nil))
  (blkOk_by (own := [("_law_k", 3)]) (N := nScripts) (sc := defScope sScripts) (by decide +kernel))
  (fun _ _ _ _ _ => pg_name (i := 3) nd rfl (Or.inl rfl) (Or.inr rfl)) (fun _ _ _ _ _ => pts_nil)
  (fun _ _ _ _ _ => (pe_callP PS hr (by rfl) (pa_cons (pv 0) (pa_cons (pv 2) pa_nil))))) pa_nil)))), ?_⟩
    refine ⟨_, rfl, _, rfl, st, c, ns, most, rfl, dr, hns, (by omega), (by omega), fun d H1 hd0 hd1 dr1 b1 => ?_⟩
    refine ⟨_, _, rfl, rfl, _, rfl, (by omega), (by omega), fun Dl hD => ?_⟩
    obtain ⟨o, hst⟩ := dr1.at
    refine lc_range (lo := 0) (n := ((1 : Int) + d).toNat) (fun i H2 => But st H1 H2 ∧ Drw H2 st c ns ∧ ∃ (ss : List (List Wd)) (vs : List V), ss.length = i ∧ (∀ sc ∈ ss, okScr sc) ∧ Bld st Dl H2 vs (ss.map fun sc => .tuple (scE sc))) ?_ ?_ ?_
    · exact ⟨(But.refl st H1).new hD, dr1.new hD, [], [], rfl, (fun _ h => nomatch h), Bld.start hst hD⟩
    · rintro i H2 hi ⟨b2, dr2, ss, vs, ls, oks, bl⟩
      refine ⟨rfl, ?_⟩
      refine ⟨_, rfl, _, rfl, st, c, ns, n, rfl, dr2, hns, hn8, fun sc q H3 hsc nq hq dr3 b3 => ?_⟩
      have bl3 := bl.but b3
      have nqs : q ≠ st := dr2.nst nq
      have nqD : q ≠ Dl := fun z => by
        rw [z, bl.2.1] at nq
        cases nq
      refine ⟨vs, bl3.2.1, ?_, ?_, ?_, ss ++ [sc], vs ++ [.ref q], by rw [List.length_append, ls]; rfl, ?_, ?_⟩
      · rw [bl.len, List.length_map, ls]
        exact small6 (by omega)
      · intro b u e nb
        rw [upd_ne (ne_of_none e hD)]
        exact b3 _ _ (b2 _ _ e nb) nb
      · obtain ⟨hc, n', v', b', h0', hs⟩ := dr3
        exact ⟨by rw [upd_ne (ne_of_none dr1.1 hD)]; exact hc, n', v', b', h0', by rw [upd_ne (Ne.symm bl.1)]; exact hs⟩
      · intro x hx
        rcases List.mem_append.mp hx with h | h
        · exact oks x h
        · rw [List.mem_singleton.mp h]
          exact hsc
      · rw [List.map_append]
        exact bl3.push (.tup nqs hq (at_words sc)) (.tup nqD hq (at_words sc))
    · rintro H2 ⟨b2, dr2, ss, vs, ls, oks, bl⟩
      refine ⟨_, _, rfl, .inl ⟨SqL.of bl.2.1, fun q hq => ?_⟩⟩
      obtain ⟨o2, hst2⟩ := dr2.at
      exact k ss q _ (by omega) (by omega) oks (bl.tup hst2 hq) (dr2.new hq) ((b1.trans b2).new hq)
end
end C79

set_option Elab.async false
set_option maxRecDepth 100000
set_option maxHeartbeats 4000000
set_option linter.all false
/-! The law's own def, run where no repr is under way; repr of data. -/
namespace My
open PySem PySem.Spec PyProof.Rows L2
/-- as FnOk, of calls that no repr is around -/
structure FnG (P : Program) (w : World) (K : PySem.W.Frag) (mg : Str → Option Value) (base : Heap) (k : Nat) (f : Addr) (fd : FuncData) (ps : List Str) (sp : Sp) : Prop where
  len : ∀ vs H Q E, sp vs H Q E → vs.length = ps.length
  run : ∀ (A : Around) (outer : List Env) (s : Shared) (H : Hp) (args : Args) (us : List Value) (vs : List V) (Q : VK) (E : XK), A.guards = some [] → Room k A → Env0 P w K mg base A outer s H → BindsTo s fd args (ps.zip us) → Vals vs us → sp vs H Q E →
    codeAny (model P w) A (.call (.ref f) args) (CR CX0 outer P w H s Q E) s
theorem FnG.of {P : Program} {w : World} {K : PySem.W.Frag} {mg : Str → Option Value} {base : Heap} {k : Nat} {f : Addr} {fd : FuncData} {ps : List Str} {sp : Sp}
    (len : ∀ vs H Q E, sp vs H Q E → vs.length = ps.length)
    (h : ∀ A : Around, A.guards = some [] → FnOk P w K mg base CX0 k f fd ps (fun vs H Q E => sp vs H Q E)) : FnG P w K mg base k f fd ps sp :=
  ⟨len, fun A outer s H args us vs Q E hg hr e0 hb r hsp => (h A hg).run A outer s H args us vs Q E hr e0 hb r hsp⟩
theorem Fun.okG {P : Program} {w : World} {K : PySem.W.Frag} {mg : Str → Option Value} {base : Heap} {x qual : Str} {st : Stmt} {f : Addr} {fd : FuncData} {N ps : List Str} {k : Nat} {sp : Sp} (F : Fun K x qual st f fd) (S : FnScope N ps (defScope st))
    (len : ∀ vs H Q E, sp vs H Q E → vs.length = ps.length)
    (hbody : ∀ (cdv : Value) (A : Around) (outer : List Env) (s : Shared) (H : Hp) (vs : List V) (Q : VK) (E : XK), A.guards = some [] → Room k (A.deeper (envOfC qual (defScope st) s.heap.objs.size f cdv)) → sp vs H Q E →
      ∃ t, PSs (cxOf CX0 P w K mg base N qual (defScope st) f cdv A outer s H E).nox (defBody st) t ∧ t { nx := fun _ H' => Q .non H', rt := Q } (start N vs) H) : FnG P w K mg base (k + 1) f fd ps sp := by
  obtain ⟨oc, od, kV, doc, pm, an, cdv, ct, osl, rfl, lk, hcd⟩ := F.ex
  refine ⟨len, fun A outer s H args us vs Q E hg hr e0 hb r hsp => ?_⟩
  have hl := len _ _ _ _ hsp
  have KX : K.In s.heap := e0.mod.kin.keeps fun b o e => (e0.bs b o e).1
  have lim : s.heap.NoLimit := e0.mod.nolimit.keeps fun b o e => (e0.bs b o e).1
  have kinds : ∀ y ∈ ps.zip us, (defScope st).names.lookup y.1 = some .local ∨ ((defScope st).names.lookup y.1 = some .cell ∧ ((cellsFrom (s.heap.objs.size + 1) (defScope st).names []).lookup y.1).isSome = true) := fun ⟨n, v⟩ hy => by
    rcases S.par n (List.of_mem_zip hy).1 with q | q
    · exact .inl q
    · exact .inr ⟨q, PySem.W.cellsFrom_some _ _ _ (.inl q)⟩
  refine codeAny_call_function hr.depth (KX _ _ lk) rfl S.co S.gen rfl (PySem.W.codeRec_of KX hcd) (hb _ _ _ _ ?_)
  refine wpAny_newFunctionEnv_cells S.kind kinds fun env he s1 x => ?_
  subst he
  refine ⟨lim.keeps x.toInCall.keep, codeAny_func ?_⟩
  obtain ⟨t, ht, hq⟩ := hbody cdv A outer s H vs Q E hg (hr.deeper _) hsp
  have I : Inv (cxOf CX0 P w K mg base N qual (defScope st) f cdv A outer s H E) [] (start N vs) H s1 := inv_start S hr.hd e0 hl r x
  refine wpAny_mono (ht.nox.run [] s1 (start N vs) H _ I hq) (fun fl s' hs => ?_) fun e s' hs => hs
  have fin : ∀ {σ' : L2.St} {H' : Hp} {v : V} {u : Value}, Inv (cxOf CX0 P w K mg base N qual (defScope st) f cdv A outer s H E) [] σ' H' s' → RelV v u → Q v H' → CE outer P w H s Q u s' :=
    fun {σ' H' v u} J rv q => ⟨v, H', J.os, J.bare, J.base, J.hok, rv, q⟩
  cases fl with
  | ret u =>
    obtain ⟨v, σ', H', J, rv, q⟩ := hs
    exact fin J rv q
  | next =>
    obtain ⟨σ', H', J, q⟩ := hs
    exact fin (v := V.non) (u := Value.none) J rfl q
  | brk =>
    obtain ⟨_, _, _, q⟩ := hs
    exact False.elim q
  | cont =>
    obtain ⟨_, _, _, q⟩ := hs
    exact False.elim q
theorem law_callG {P : Program} {w : World} {K : PySem.W.Frag} {mg mb : Str → Option Value} {k : Nat} {fa a : Addr} {fd : FuncData} {x : Str} {sp : Sp} {s₁ : Shared} {vs : List Value} {ns : List Int}
    (KX : K.In s₁.heap) (hns : s₁.heap.Ns mainGlobals mg) (hb : s₁.heap.Ns builtinsNs mb) (hbb : ∀ x : Str, x ≠ "__name__" → mb x = bootBuiltins x) (hlim : s₁.heap.NoLimit) (hg : s₁.gens = #[])
    (ha : s₁.heap.get? a = some { cls := .type "list", data := .seq vs.toArray }) (hi : IntsAre vs ns) (hl : ns.length ≤ sizeLine) (hr : Room k callerA)
    (F : ∀ base : Heap, K.In base → base.Ns mainGlobals mg → FnG P w K mg base k fa fd [x] sp) (hbind : ∀ (s : Shared) (u : Value), BindsTo s fd ⟨[u], []⟩ [(x, u)])
    (hsp : ∀ H : Hp, Only H → SqL K H a (ns.map V.int) → sp [.ref a] H (fun v _ => v = .bl true) fun _ _ _ => False) :
    codeAny (model P w) callerA (.call (.ref fa) ⟨[.ref a], []⟩) (fun r s' => r = .ok (.ret (.bool true)) ∧ OldK s₁.heap s'.heap ∧ s'.os = s₁.os ∧ AllBare s'.gens) s₁ := by
  have rv := vals_ints hi
  have lv := hi.length
  have core : ∀ H : Hp, Only H → SqL K H a (ns.map V.int) → HOk P w H s₁.heap → (∀ b, H b ≠ none → b = a) → (H a ≠ none → K.lookup a = none) →
      codeAny (model P w) callerA (.call (.ref fa) ⟨[.ref a], []⟩) (fun r s' => r = .ok (.ret (.bool true)) ∧ OldK s₁.heap s'.heap ∧ s'.os = s₁.os ∧ AllBare s'.gens) s₁ := by
    intro H hO hS hok hA hK
    have hid : ∀ {b : Addr} {o : Obj}, s₁.heap.get? b = some o → H b = none → (hidT s₁.heap H).get? b = some o := fun e n => hidT_get e n
    have noA : ∀ {b : Addr} {o : Obj} {es : Array DictEntry} {ep : Nat}, s₁.heap.get? b = some o → o.data = .dict es ep → H b = none := fun {b o es ep} e d => by
      cases q : H b with
      | none => rfl
      | some u =>
        have e' : b = a := hA b (by rw [q]; simp)
        subst e'
        rw [ha] at e
        cases e
        exact nomatch (show Data.seq vs.toArray _ = Data.dict es ep from d)
    have nsK : ∀ {b : Addr} {m : Str → Option Value}, s₁.heap.Ns b m → (hidT s₁.heap H).Ns b m := fun {b m} ⟨o, es, ep, e, d, r⟩ => ⟨o, es, ep, hid e (noA e d), d, r⟩
    have kb : K.In (hidT s₁.heap H) := fun b o e => hid (KX b o e) (by
      cases q : H b with
      | none => rfl
      | some u =>
        have e' : b = a := hA b (by rw [q]; simp)
        subst e'
        rw [hK (by rw [q]; simp)] at e
        cases e)
    have md : Mod K mg (hidT s₁.heap H) := ⟨kb, nsK hns, ⟨mb, nsK hb, hbb⟩, let ⟨mc, h1, h2⟩ := hlim; ⟨mc, nsK h1, h2⟩⟩
    have e0 : Env0 P w K mg (hidT s₁.heap H) callerA [] s₁ H := ⟨rfl, md, fun b o e => of_hidT e, Nat.le_of_eq (hidT_size _ _), trivial, fun b hb => absurd (show b ∈ ([] : List Addr) from hb) (by simp), hok, .of_eq hg⟩
    refine codeAny_mono ((F _ kb (nsK hns)).run callerA [] s₁ H ⟨[.ref a], []⟩ [.ref a] [.ref a] _ _ rfl hr e0 (hbind s₁ (.ref a)) (.cons rfl .nil) (hsp H hO hS)) fun r s' h => ?_
    cases r with
    | error e => exact False.elim h
    | ok fl =>
      cases fl with
      | next => exact False.elim h
      | brk => exact False.elim h
      | cont => exact False.elim h
      | ret u =>
        obtain ⟨v, H', os, bare, un, hok', r', q⟩ := h
        have q' : v = .bl true := q
        subst q'
        obtain rfl : u = Value.bool true := r'
        refine ⟨rfl, OldK.of_keep fun b o e => ?_, os, bare⟩
        cases q : H b with
        | none => exact un.keep b o e q (by intro z; exact absurd (show b ∈ ([] : List Addr) from z) (by simp)) (by simp)
        | some u =>
          rcases hO b with z | ⟨ob, xs, z⟩
          · rw [q] at z
            cases z
          · have z2 := un.frzs b ob _ z
            obtain ⟨e1, _⟩ := hok b _ z
            obtain ⟨e2, _⟩ := hok' b _ z2
            rw [e] at e1
            cases e1
            exact e2
  cases hk : K.lookup a with
  | some o =>
    have e := KX a o hk
    rw [ha] at e
    cases e
    exact core (fun _ => none) (fun _ => .inl rfl) (.inr ⟨_, vs.toArray, _, hk, rfl, rfl, rfl, by rw [List.size_toArray, lv]; exact hl, by simpa using rv⟩) (fun b u z => nomatch (show (none : Option HO) = some u from z)) (fun b z => absurd rfl z) fun z => absurd rfl z
  | none =>
    refine core (fun b => if b = a then some (.frz { cls := .type "list", data := .seq vs.toArray } (.lst (ns.map V.int))) else none) (fun b => ?_) (.inl (.inr ⟨{ cls := .type "list", data := .seq vs.toArray }, if_pos rfl⟩)) (fun b u z => ?_) (fun b z => ?_) fun _ => hk
    · by_cases hb : b = a
      · exact .inr ⟨_, _, if_pos hb⟩
      · exact .inl (if_neg hb)
    · by_cases hb : b = a
      · have z' := (if_pos hb).symm.trans z
        cases z'
        subst hb
        exact ⟨ha, by rw [List.length_map]; exact hl, vs, _, rv, ha⟩
      · have z' := (if_neg hb).symm.trans z
        cases z'
    · by_cases hb : b = a
      · exact hb
      · exact absurd (if_neg hb) z
theorem walk_ofG {l : PySem.W.OpenLaw} {n k : Nat} {q : Program} {loose : List Str} {XP : (Str → Option Value) → Heap → Prop} {YP : World → Heap → Prop} {d : DefRec} {K : Params → PySem.W.Frag} {sp : World → Sp} {x : Str}
    (hn : l.most = some n) (hn2 : n ≤ sizeLine) (hdf : d.params.defaults = []) (hr : Room k callerA)
    (hY : ∀ (w : World) (h : Heap), YP w h → (K w.params).In h)
    (F : ∀ (w : World) (mg : Str → Option Value) (fa : Addr) (h : Heap), (K w.params).In h → h.Ns mainGlobals mg → mg d.name = some (.ref fa) →
      ∃ fd : FuncData, (∀ (s : Shared) (u : Value), BindsTo s fd ⟨[u], []⟩ [(x, u)]) ∧
        ∀ base : Heap, (K w.params).In base → base.Ns mainGlobals mg → FnG l.prog w (K w.params) mg base k fa fd [x] (sp w))
    (hsp : ∀ (w : World) (H : Hp) (a : Addr) (ns : List Int), ns.length ≤ n → Only H → SqL (K w.params) H a (ns.map V.int) → sp w [.ref a] H (fun v _ => v = .bl true) fun _ _ _ => False) :
    PySem.W.WalkO q loose XP YP l.row.toRowW d [] (fun f vs => PySem.call f vs) := by
  refine Att.attach_call hn hdf fun w s₀ s₁ mg mb fa o pm cd doc a vs ns G Y ho hd hcd hmg hobj hints hlen hg => ?_
  have KX := hY w _ Y
  obtain ⟨fd, hb, hF⟩ := F w mg fa _ KX G.T.g hmg
  exact law_callG KX G.T.g G.T.b G.T.builtins G.T.nolimit hg hobj hints (Nat.le_trans hlen hn2) hr hF hb (fun H hO hS => hsp w H a ns hlen hO hS)
/-- repr(x) of data that stands in the heap -/
def rRepr (K : PySem.W.Frag) : List V → Hp → VK → Prop := fun xs H Q => ∃ (a : Addr) (d : PyData), xs = [.ref a] ∧ Dp K H (.ref a) d ∧ d.showable = true ∧ d.hasDict = false ∧ d.depth ≤ 60 ∧ d.shown.length ≤ sizeLine ∧ Q (.str d.shown) H
theorem call_repr {X : Cx} (hg : X.A.guards = some []) (hu : X.A.units + 64 < cLine) : CallR X (.builtin "repr") (rRepr X.K) := by
  intro pins s σ H xs us Q I r h
  obtain ⟨a, d, rfl, hd, hs, hnd, hdp, hsz, q⟩ := h
  cases r with
  | cons r1 rr =>
    cases rr
    obtain ⟨as, rd⟩ := Dp.reads I d _ _ hd r1
    cases (show _ = Value.ref a from r1)
    refine repr_of_reads' rd hs (fun z => by rw [hnd] at z; cases z) hg (by omega) (fun b o e => e) (fun h' u tk hk => ?_) hsz
    exact ⟨.str d.shown, H, I.kept (t' := tk) hk, ⟨_, rfl⟩, q⟩
end My

set_option Elab.async false
set_option maxRecDepth 100000
set_option maxHeartbeats 4000000
set_option linter.all false
/-! Any data, dicts of texts and ints among them: isinstance, repr. -/
namespace My
open PySem PySem.Spec PyProof.Rows L2
def dkV (kvs : List (Str × Int)) : List (Key × V) := kvs.map fun p => (Sum.inr p.1, V.int p.2)
def dkD (kvs : List (Str × Int)) : List (PyData × PyData) := kvs.map fun p => (.str p.1, .int p.2)
mutual
inductive Ax (m : Addr) (H : Hp) : V → PyData → Prop
  | non : Ax m H .non .none
  | bl (b : Bool) : Ax m H (.bl b) (.bool b)
  | int (i : Int) : Ax m H (.int i) (.int i)
  | str (x : Str) : Ax m H (.str x) (.str x)
  | lst {a : Addr} {xs : List V} {ds : List PyData} : a ≠ m → H a = some (.lst xs) → AxAll m H xs ds → Ax m H (.ref a) (.list ds)
  | tup {a : Addr} {xs : List V} {ds : List PyData} : a ≠ m → H a = some (.tup xs) → AxAll m H xs ds → Ax m H (.ref a) (.tuple ds)
  | dic {a : Addr} {kvs : List (Str × Int)} : a ≠ m → H a = some (.dK (dkV kvs)) → Ax m H (.ref a) (.dict (dkD kvs))
inductive AxAll (m : Addr) (H : Hp) : List V → List PyData → Prop
  | nil : AxAll m H [] []
  | cons {v : V} {vs : List V} {d : PyData} {ds : List PyData} : Ax m H v d → AxAll m H vs ds → AxAll m H (v :: vs) (d :: ds)
end
mutual
theorem Ax.mono {m : Addr} {H H' : Hp} (b : But m H H') : ∀ {v : V} {d : PyData}, Ax m H v d → Ax m H' v d
  | _, _, .non => .non
  | _, _, .bl k => .bl k
  | _, _, .int i => .int i
  | _, _, .str x => .str x
  | _, _, .lst n h q => .lst n (b _ _ h n) (AxAll.mono b q)
  | _, _, .tup n h q => .tup n (b _ _ h n) (AxAll.mono b q)
  | _, _, .dic n h => .dic n (b _ _ h n)
theorem AxAll.mono {m : Addr} {H H' : Hp} (b : But m H H') : ∀ {vs : List V} {ds : List PyData}, AxAll m H vs ds → AxAll m H' vs ds
  | _, _, .nil => .nil
  | _, _, .cons h q => .cons (Ax.mono b h) (AxAll.mono b q)
end
mutual
theorem At.ax {m : Addr} {H : Hp} : ∀ {v : V} {d : PyData}, At m H v d → Ax m H v d
  | _, _, .non => .non
  | _, _, .bl k => .bl k
  | _, _, .int i => .int i
  | _, _, .str x => .str x
  | _, _, .lst n h q => .lst n h (AtAll.ax q)
  | _, _, .tup n h q => .tup n h (AtAll.ax q)
theorem AtAll.ax {m : Addr} {H : Hp} : ∀ {vs : List V} {ds : List PyData}, AtAll m H vs ds → AxAll m H vs ds
  | _, _, .nil => .nil
  | _, _, .cons h q => .cons (At.ax h) (AtAll.ax q)
end
theorem AxAll.length {m : Addr} {H : Hp} : ∀ {vs : List V} {ds : List PyData}, AxAll m H vs ds → vs.length = ds.length
  | _, _, .nil => rfl
  | _, _, .cons _ q => by rw [List.length_cons, List.length_cons, AxAll.length q]
theorem AxAll.get {m : Addr} {H : Hp} : ∀ {vs : List V} {ds : List PyData} {i : Nat} {v : V}, AxAll m H vs ds → vs[i]? = some v → ∃ d, ds[i]? = some d ∧ Ax m H v d
  | _, _, _, _, .nil, e => by simp at e
  | _, _, 0, _, .cons h _, e => by
    simp at e
    subst e
    exact ⟨_, rfl, h⟩
  | _, _, i + 1, v, .cons _ q, e => by
    obtain ⟨d, h1, h2⟩ := AxAll.get (i := i) (v := v) q (by simpa using e)
    exact ⟨d, by simpa using h1, h2⟩
theorem AxAll.append {m : Addr} {H : Hp} : ∀ {vs us : List V} {ds es : List PyData}, AxAll m H vs ds → AxAll m H us es → AxAll m H (vs ++ us) (ds ++ es)
  | _, _, _, _, .nil, h => h
  | _, _, _, _, .cons h q, e => .cons h (AxAll.append q e)
theorem AxAll.take {m : Addr} {H : Hp} : ∀ {vs : List V} {ds : List PyData} (n : Nat), AxAll m H vs ds → AxAll m H (vs.take n) (ds.take n)
  | _, _, 0, _ => .nil
  | _, _, _ + 1, .nil => .nil
  | _, _, n + 1, .cons h q => .cons h (AxAll.take n q)
theorem AxAll.drop {m : Addr} {H : Hp} : ∀ {vs : List V} {ds : List PyData} (n : Nat), AxAll m H vs ds → AxAll m H (vs.drop n) (ds.drop n)
  | _, _, 0, q => q
  | _, _, _ + 1, .nil => .nil
  | _, _, n + 1, .cons h q => AxAll.drop n q
theorem AxAll.rev {m : Addr} {H : Hp} : ∀ {vs : List V} {ds : List PyData}, AxAll m H vs ds → AxAll m H vs.reverse ds.reverse
  | _, _, .nil => .nil
  | _, _, .cons h q => by
    rw [List.reverse_cons, List.reverse_cons]
    exact (AxAll.rev q).append (.cons h .nil)
theorem Ax.ty {K : PySem.W.Frag} {m : Addr} {H : Hp} {v : V} {d : PyData} (h : Ax m H v d) : TyX K H v (.type (tyS d)) := by
  cases h with
  | non => exact .base .non
  | bl b => exact .base (.bl b)
  | int i => exact .base (.int i)
  | str x => exact .base (.str x)
  | lst n e q => exact .base (.lst e)
  | tup n e q => exact .base (.tup e)
  | dic n e => exact .base (.dK e)
theorem k_dict_lt : kitAnyB "dict" ["list", "tuple"] = some false := by decide +kernel
theorem k_dict_list : kitB "dict" "list" = some false := by decide +kernel
theorem k_dict_str : kitB "dict" "str" = some false := by decide +kernel
def isLT : PyData → Bool
  | .list _ => true
  | .tuple _ => true
  | _ => false
theorem k_lt (d : PyData) : kitAnyB (tyS d) ["list", "tuple"] = some (isLT d) := by
  cases d
  · exact k_NoneType_lt
  · exact k_bool_lt
  · exact k_int_lt
  · exact k_str_lt
  · exact k_list_lt
  · exact k_tuple_lt
  · exact k_dict_lt
def isStr : PyData → Bool
  | .str _ => true
  | _ => false
theorem k_str (d : PyData) : kitB (tyS d) "str" = some (isStr d) := by
  cases d
  · exact k_NoneType_str
  · exact k_bool_str
  · exact k_int_str
  · exact k_str_str
  · exact k_list_str
  · exact k_tuple_str
  · exact k_dict_str
def isLs : PyData → Bool
  | .list _ => true
  | _ => false
theorem k_ls (d : PyData) : kitB (tyS d) "list" = some (isLs d) := by
  cases d
  · exact k_NoneType_list
  · exact k_bool_list
  · exact k_int_list
  · exact k_str_list
  · exact k_list_list
  · exact k_tuple_list
  · exact k_dict_list
theorem ax_isiT {K : PySem.W.Frag} {m tp : Addr} {H : Hp} {v : V} {d : PyData} {Q : VK} (h : Ax m H v d) (ht : H tp = some (.tup [.ty "list", .ty "tuple"])) (q : Q (.bl (isLT d)) H) : rIsiT K [v, .ref tp] H Q :=
  ⟨_, _, _, _, _, _, rfl, ht, cls_all ["list", "tuple"], h.ty, kit_any (k_lt d), q⟩
theorem ax_isi {K : PySem.W.Frag} {m : Addr} {H : Hp} {v : V} {d : PyData} {Q : VK} (h : Ax m H v d) (q : Q (.bl (isStr d)) H) : rIsi K [v, .ty "str"] H Q :=
  ⟨_, _, _, _, _, rfl, .ty "str", h.ty, kit_ty (k_str d), q⟩
theorem ax_isl {K : PySem.W.Frag} {m : Addr} {H : Hp} {v : V} {d : PyData} {Q : VK} (h : Ax m H v d) (q : Q (.bl (isLs d)) H) : rIsi K [v, .ty "list"] H Q :=
  ⟨_, _, _, _, _, rfl, .ty "list", h.ty, kit_ty (k_ls d), q⟩
/-! repr -/
theorem dict_pairs {P : Program} {w : World} : ∀ {kvs : List (Str × Int)} {es : List DictEntry} {vs : List (Key × Value)}, KV (dkV kvs) vs → Pairs (mixKind P w) es vs → ∀ h : Heap, ReadsAll h (es.map (·.key)) ((dkD kvs).map (·.1)) [] ∧ ReadsAll h (es.map (·.val)) ((dkD kvs).map (·.2)) []
  | [], _, _, .nil, .nil, _ => ⟨.nil, .nil⟩
  | (x, i) :: r, _, _, .cons ⟨e1, e2⟩ q, .cons h1 h2 p, h => by
    obtain ⟨a, b⟩ := dict_pairs q p h
    rw [← e1] at h1
    rw [← h2] at e2
    obtain ⟨t, e3⟩ := (show ∃ t, _ = Value.int i t from e2)
    rcases keyIs_shape (show keyIs (Sum.inr x) _ = true from h1) with ⟨j, t2, z, _⟩ | ⟨y, t2, z, e4⟩
    · cases z
    · cases z
      refine ⟨?_, ?_⟩
      · simp only [dkD, List.map_cons]
        rw [e4]
        exact .cons (as := []) (.str x t2) a
      · simp only [dkD, List.map_cons]
        rw [e3]
        exact .cons (as := []) (.int i t) b
theorem dkD_flat (kvs : List (Str × Int)) : PyData.hasDictAll ((dkD kvs).map (·.1)) = false ∧ PyData.hasDictAll ((dkD kvs).map (·.2)) = false := by
  induction kvs with
  | nil => exact ⟨rfl, rfl⟩
  | cons p r ih =>
    refine ⟨?_, ?_⟩
    · show (PyData.hasDict (.str p.1) || PyData.hasDictAll ((dkD r).map (·.1))) = false
      rw [ih.1]
      rfl
    · show (PyData.hasDict (.int p.2) || PyData.hasDictAll ((dkD r).map (·.2))) = false
      rw [ih.2]
      rfl
/-- what repr needs of an object: how it reads, what its text is -/
structure RepD (P : Program) (w : World) (h : Heap) (u : Value) (d : PyData) : Prop where
  rd : ∃ as, Reads h u d as
  rp : ∃ bs, ReadAtMost h d.depth bs ∧ ReprK P w bs h d.depth u d.shown
section
variable {X : Cx} {pins : List (Addr × Obj)} {σ : L2.St} {H : Hp} {s : Shared} {m : Addr}
theorem rep_dict (I : Inv X pins σ H s) {a : Addr} {kvs : List (Str × Int)} (e : H a = some (.dK (dkV kvs))) (hs : (PyData.dict (dkD kvs)).showable = true) (hz : (PyData.dict (dkD kvs)).shown.length ≤ sizeLine) :
    ∃ (o : Obj) (es : Array DictEntry) (n : Nat), s.heap.get? a = some o ∧ o.cls = .type "dict" ∧ o.data = .dict es n ∧ (a == sysModules) = false ∧ (∃ as, Reads s.heap (.ref a) (.dict (dkD kvs)) as) ∧
      ∃ bs, ReadAtMost s.heap (PyData.depthKv (dkD kvs)) bs ∧ a ∉ bs ∧ ReprEntriesK X.prog X.w bs s.heap (PyData.depthKv (dkD kvs)) es.toList (List.zipWith (fun k v : Str => k ++ ": " ++ v) (PyData.shownAll ((dkD kvs).map (·.1))) (PyData.shownAll ((dkD kvs).map (·.2)))) := by
  obtain ⟨_, hsys, vs, rel, o, es, n, ho, hx, hd, _, hp, _⟩ := dk_of I.hok e
  obtain ⟨r1, r2⟩ := dict_pairs rel hp s.heap
  obtain ⟨f1, f2⟩ := dkD_flat kvs
  obtain ⟨z1, z2⟩ := PyData.showableKv_split (dkD kvs) (by simpa only [PyData.showable] using hs)
  have hz2 : (dictText (PyData.shownKv (dkD kvs))).length ≤ sizeLine := by simpa only [PyData.shown] using hz
  have rr := Reads.dict ho hx.1 hd r1 r2
  obtain ⟨b1, c1, k1⟩ := ReprAllK.of_readsAll (prog := X.prog) (w := X.w) r1 z1 (fun q => by rw [f1] at q; cases q) fun t ht => by
    obtain ⟨p, hp, hl⟩ := PyData.shownKv_key_le (dkD kvs) t ht
    exact Nat.le_trans hl (Nat.le_trans (dictText_mem_le hp) hz2)
  obtain ⟨b2, c2, k2⟩ := ReprAllK.of_readsAll (prog := X.prog) (w := X.w) r2 z2 (fun q => by rw [f2] at q; cases q) fun t ht => by
    obtain ⟨p, hp, hl⟩ := PyData.shownKv_val_le (dkD kvs) t ht
    exact Nat.le_trans hl (Nat.le_trans (dictText_mem_le hp) hz2)
  have hb : ReadAtMost s.heap (PyData.depthKv (dkD kvs)) (b1 ++ b2) := (c1.mono (PyData.depthAll_keys_le _)).append (c2.mono (PyData.depthAll_vals_le _))
  refine ⟨o, es, n, ho, hx.1, hd, hsys, ⟨_, rr⟩, b1 ++ b2, hb, not_mem_of_deeper rr (by simp only [PyData.depth]; omega) hb, ?_⟩
  exact .of_two es.toList _ _ (k1.more_le (fun b q => List.mem_append_left _ q) (PyData.depthAll_keys_le _)) (k2.more_le (fun b q => List.mem_append_right _ q) (PyData.depthAll_vals_le _))
mutual
theorem Ax.rep (I : Inv X pins σ H s) : ∀ {v : V} {d : PyData} {u : Value}, Ax m H v d → RelV v u → d.showable = true → d.shown.length ≤ sizeLine → RepD X.prog X.w s.heap u d
  | _, _, _, .non, r, _, _ => by
    cases r
    exact ⟨⟨_, .none⟩, [], (fun _ h => nomatch h), by simp only [PyData.shown]; exact .of_is ReprIs.none _ _ _⟩
  | _, _, _, .bl b, r, _, _ => by
    cases r
    exact ⟨⟨_, .bool b⟩, [], (fun _ h => nomatch h), by simp only [PyData.shown]; exact .of_is (ReprIs.bool b) _ _ _⟩
  | _, _, _, .int i, r, hs, _ => by
    obtain ⟨t, rfl⟩ := r
    exact ⟨⟨_, .int i t⟩, [], (fun _ h => nomatch h), by simp only [PyData.shown]; exact .of_is (ReprIs.int t (by simpa [PyData.showable] using hs)) _ _ _⟩
  | _, _, _, .str x, r, _, hz => by
    obtain ⟨t, rfl⟩ := r
    exact ⟨⟨_, .str x t⟩, [], (fun _ h => nomatch h), by simp only [PyData.shown]; exact .of_is (ReprIs.str x t (by simpa only [PyData.shown] using hz)) _ _ _⟩
  | _, _, _, .lst (xs := xs) (ds := ds) nm e q, r, hs, hz => by
    cases r
    have hz2 : (listText (PyData.shownAll ds)).length ≤ sizeLine := by simpa only [PyData.shown] using hz
    obtain ⟨its, rv, ⟨o, n, ho, hc, _, hd⟩, _⟩ := I.list (SqL.of e)
    obtain ⟨⟨as, ra⟩, bs, hb, hk⟩ := AxAll.rep I q rv (by simpa only [PyData.showable] using hs) fun t ht => Nat.le_trans (listText_mem_le ht) hz2
    have rr := Reads.list ho hc hd ra
    have na := not_mem_of_deeper rr (by simp only [PyData.depth]; omega) hb
    refine ⟨⟨_, rr⟩, _, ReadAtMost.cons rr (by simp only [PyData.depth]; omega) hb, ?_⟩
    simp only [PyData.depth, PyData.shown]
    cases its with
    | nil =>
      cases ra
      exact ReprK.listEmpty ho hc hd
    | cons x l => exact ReprK.list ho hc hd na (by simpa using hk.length_eq) fun i y ey => hk.item i y (by simpa using ey)
  | _, _, _, .tup (xs := xs) (ds := ds) nm e q, r, hs, hz => by
    cases r
    have hz2 : (tupleText (PyData.shownAll ds)).length ≤ sizeLine := by simpa only [PyData.shown] using hz
    obtain ⟨its, rv, ⟨o, ho, hc, n, hd⟩, _⟩ := I.tuple (SqT.of e)
    obtain ⟨⟨as, ra⟩, bs, hb, hk⟩ := AxAll.rep I q rv (by simpa only [PyData.showable] using hs) fun t ht => Nat.le_trans (tupleText_mem_le ht) hz2
    have rr := Reads.tuple ho hc hd ra
    have na := not_mem_of_deeper rr (by simp only [PyData.depth]; omega) hb
    refine ⟨⟨_, rr⟩, _, ReadAtMost.cons rr (by simp only [PyData.depth]; omega) hb, ?_⟩
    simp only [PyData.depth, PyData.shown]
    exact ReprK.tuple ho hc hd na hk
  | _, _, _, .dic (kvs := kvs) nm e, r, hs, hz => by
    cases r
    obtain ⟨o, es, n, ho, hc, hd, hsys, ⟨as, rr⟩, bs, hb, na, hE⟩ := rep_dict I e hs hz
    refine ⟨⟨_, rr⟩, _, ReadAtMost.cons rr (by simp only [PyData.depth]; omega) hb, ?_⟩
    simp only [PyData.depth, PyData.shown, PyData.shownKv_eq]
    exact ReprK.dict ho hc hd hsys na hE
theorem AxAll.rep (I : Inv X pins σ H s) : ∀ {vs : List V} {ds : List PyData} {us : List Value}, AxAll m H vs ds → Vals vs us → PyData.showableAll ds = true → (∀ t ∈ PyData.shownAll ds, t.length ≤ sizeLine) →
    (∃ as, ReadsAll s.heap us ds as) ∧ ∃ bs, ReadAtMost s.heap (PyData.depthAll ds) bs ∧ ReprAllK X.prog X.w bs s.heap (PyData.depthAll ds) us (PyData.shownAll ds)
  | _, _, _, .nil, r, _, _ => by
    cases r
    exact ⟨⟨_, .nil⟩, [], (fun _ h => nomatch h), by simp only [PyData.shownAll]; exact .nil⟩
  | _, _, _, .cons (d := d) (ds := ds) h q, r, hs, hz => by
    cases r with
    | cons r1 r2 =>
      obtain ⟨s1, s2⟩ := (show d.showable = true ∧ PyData.showableAll ds = true by simpa only [PyData.showableAll, Bool.and_eq_true] using hs)
      obtain ⟨⟨as, ra⟩, b1, c1, k1⟩ := Ax.rep I h r1 s1 (hz _ (by simp only [PyData.shownAll]; exact List.mem_cons_self ..))
      obtain ⟨⟨as2, ra2⟩, b2, c2, k2⟩ := AxAll.rep I q r2 s2 fun t ht => hz t (by simp only [PyData.shownAll]; exact List.mem_cons_of_mem _ ht)
      refine ⟨⟨_, .cons ra ra2⟩, b1 ++ b2, ?_, ?_⟩
      · simp only [PyData.depthAll]
        exact (c1.mono (Nat.le_max_left _ _)).append (c2.mono (Nat.le_max_right _ _))
      · simp only [PyData.depthAll, PyData.shownAll]
        exact .cons ((k1.more fun b q => List.mem_append_left _ q).level_le (Nat.le_max_left _ _)) (k2.more_le (fun b q => List.mem_append_right _ q) (Nat.le_max_right _ _))
end
end
/-- repr(x) of any data -/
def rReprX (K : PySem.W.Frag) : List V → Hp → VK → Prop := fun xs H Q => ∃ (m : Addr) (v : V) (d : PyData), xs = [v] ∧ Ax m H v d ∧ d.showable = true ∧ d.depth ≤ 60 ∧ d.shown.length ≤ sizeLine ∧ Q (.str d.shown) H
theorem call_reprX {X : Cx} (hg : X.A.guards = some []) (hu : X.A.units + 64 < cLine) : CallR X (.builtin "repr") (rReprX X.K) := by
  intro pins s σ H xs us Q I r h
  obtain ⟨m, v, d, rfl, hd, hs, hdp, hsz, q⟩ := h
  obtain ⟨u, rfl, ru⟩ := vals1 r
  have fin : ∀ {h' : Heap} {tk t : Nat}, (∀ b o, s.heap.get? b = some o → h'.get? b = some o) → ∃ v H1, Inv X pins σ H1 { s with heap := h', toks := tk } ∧ RelV v (.str d.shown t) ∧ Q v H1 := fun {h' tk t} hk => ⟨.str d.shown, H, I.kept (t' := tk) hk, ⟨_, rfl⟩, q⟩
  cases hd with
  | non =>
    cases ru
    simp only [PyData.shown] at fin
    exact PySem.P.repr_of_none (fin fun _ _ e => e)
  | bl b =>
    cases ru
    simp only [PyData.shown] at fin
    exact PySem.P.repr_of_bool (fin fun _ _ e => e)
  | int i =>
    obtain ⟨t, rfl⟩ := ru
    simp only [PyData.shown] at fin
    exact PySem.P.repr_of_int (by simpa [PyData.showable] using hs) (fin fun _ _ e => e)
  | str x =>
    obtain ⟨t, rfl⟩ := ru
    simp only [PyData.shown] at fin hsz
    exact PySem.P.repr_of_str (fin fun _ _ e => e) hsz
  | @lst a ys ds nm e qa =>
    cases ru
    have hz2 : (listText (PyData.shownAll ds)).length ≤ sizeLine := by simpa only [PyData.shown] using hsz
    obtain ⟨its, rv, ⟨o, n, ho, hc, _, hd⟩, _⟩ := I.list (SqL.of e)
    obtain ⟨⟨as, ra⟩, bs, hb, hk⟩ := AxAll.rep I qa rv (by simpa only [PyData.showable] using hs) fun t ht => Nat.le_trans (listText_mem_le ht) hz2
    have rr := Reads.list ho hc hd ra
    have na := not_mem_of_deeper rr (by simp only [PyData.depth]; omega) hb
    simp only [PyData.depth] at hdp
    simp only [PyData.shown] at fin
    refine call_repr_slot (by omega) ⟨o, ho, hc⟩ PySem.F.slot_list_repr.toG ?_
    cases its with
    | nil =>
      cases ra
      exact call_list_repr_empty ⟨o, ho, hc⟩ ho hd ⟨_, _, rfl, fin fun _ _ e => e⟩
    | cons x l =>
      exact call_list_reprK ho hc hd na (by simpa using hk.length_eq) (fun i y ey => hk.item i y (by simpa using ey)) (show X.A.in1.guards = some [] from hg) (fun b _ => Clear.nil b) (by show X.A.units + 1 + (PyData.depthAll ds + 1) < cLine; omega) (fun _ _ e => e) (fun h' u tk hk' => ⟨_, _, rfl, fin hk'⟩) hz2
  | @tup a ys ds nm e qa =>
    cases ru
    have hz2 : (tupleText (PyData.shownAll ds)).length ≤ sizeLine := by simpa only [PyData.shown] using hsz
    obtain ⟨its, rv, ⟨o, ho, hc, n, hd⟩, _⟩ := I.tuple (SqT.of e)
    obtain ⟨⟨as, ra⟩, bs, hb, hk⟩ := AxAll.rep I qa rv (by simpa only [PyData.showable] using hs) fun t ht => Nat.le_trans (tupleText_mem_le ht) hz2
    have rr := Reads.tuple ho hc hd ra
    have na := not_mem_of_deeper rr (by simp only [PyData.depth]; omega) hb
    simp only [PyData.depth] at hdp
    simp only [PyData.shown] at fin
    refine call_repr_slot (by omega) ⟨o, ho, hc⟩ PySem.F.slot_tuple_repr ?_
    exact call_tuple_reprK ho hc hd na hk (show X.A.in1.guards = some [] from hg) (fun b _ => Clear.nil b) (by show X.A.units + 1 + (PyData.depthAll ds + 1) < cLine; omega) (fun _ _ e => e) (fun h' u tk hk' => ⟨_, _, rfl, fin hk'⟩) hz2
  | @dic a kvs nm e =>
    cases ru
    obtain ⟨o, es, n, ho, hc, hd, hsys, _, bs, hb, na, hE⟩ := rep_dict I e hs hsz
    simp only [PyData.depth] at hdp
    simp only [PyData.shown, PyData.shownKv_eq] at fin hsz
    refine call_repr_slot (by omega) ⟨o, ho, hc⟩ PySem.F.slot_dict_repr ?_
    exact call_dict_reprK ho hc hd hsys na hE (show X.A.in1.guards = some [] from hg) (fun b _ => Clear.nil b) (by show X.A.units + 1 + (PyData.depthKv (dkD kvs) + 1) < cLine; omega) (fun _ _ e => e) (fun h' u tk hk' => ⟨_, _, rfl, fin hk'⟩) hsz
/-! a list or a tuple, whichever it is -/
section
variable {X : Cx}
theorem op_or {op : Value → Value → Sem Value} {r1 r2 : R2} (h1 : OpR X op r1) (h2 : OpR X op r2) : OpR X op (fun x y H Q => r1 x y H Q ∨ r2 x y H Q) := by
  intro pins s σ H x y v u Q I rx ry h
  rcases h with h | h
  · exact h1 pins s σ H x y v u Q I rx ry h
  · exact h2 pins s σ H x y v u Q I rx ry h
theorem sl_or {r1 r2 : V → Option Int → Option Int → Hp → VK → Prop} (h1 : SlR X r1) (h2 : SlR X r2) : SlR X (fun x lo hi H Q => r1 x lo hi H Q ∨ r2 x lo hi H Q) := by
  intro pins s σ H x v vl vu lo hi sl Q I rx hs pl pu h
  rcases h with h | h
  · exact h1 pins s σ H x v vl vu lo hi sl Q I rx hs pl pu h
  · exact h2 pins s σ H x v vl vu lo hi sl Q I rx hs pl pu h
end
end My

set_option Elab.async false
set_option maxRecDepth 100000
set_option maxHeartbeats 4000000
set_option linter.all false
/-! Exceptions of own classes over Exception whose __init__ stores one field: made and held as a value, raised, asked. -/
namespace PySem
namespace MyX
open Builtin Builtin.ObjectAttr HandSPX
abbrev xTail : List Value := [.type "Exception", .type "BaseException", .type "object"]
/-- own classes, then Exception's mro -/
def refsX : List Value → Bool
  | .ref _ :: r => refsX r
  | l => l == xTail
theorem refsX_cases (l : List Value) (e : refsX l = true) : (∃ c r, l = .ref c :: r ∧ refsX r = true) ∨ l = xTail := by
  cases l with
  | nil => exact .inr (beq_iff_eq.mp e)
  | cons a r =>
    cases a with
    | ref c => exact .inl ⟨c, r, rfl, e⟩
    | _ => exact .inr (beq_iff_eq.mp e)
theorem refsX_pass (self : Value) : ∀ l : List Value, refsX l = true → refuseLoop self "__setattr__" l = pure () := by
  intro l
  induction l with
  | nil => exact fun e => absurd e (by decide)
  | cons a r ih =>
    intro e
    rcases refsX_cases _ e with ⟨c, r', q, h⟩ | q
    · injection q with q1 q2
      subst q1 q2
      rw [refuseLoop_ref]
      exact ih h
    · rw [q]
      exact F.store_Exception.passes self
theorem refsX_has (X : String) : ∀ l : List Value, refsX l = true → l.contains (.type X) = xTail.contains (.type X) := by
  intro l
  induction l with
  | nil => exact fun e => absurd e (by decide)
  | cons a r ih =>
    intro e
    rcases refsX_cases _ e with ⟨c, r', q, h⟩ | q
    · injection q with q1 q2
      subst q1 q2
      rw [List.contains_cons, ih h]
      rfl
    · rw [q]
theorem refsX_ne {l : List Value} (e : refsX l = true) : l.isEmpty = false := by
  cases l with
  | nil => exact absurd e (by decide)
  | cons _ _ => rfl
section
variable {prog : Program} {w : World} {A : Around} {E : Value → Shared → Prop} {R : Result → Shared → Prop} {hp : Heap} {g : Array GenState} {d : Drawn} {t : Nat} {os : OsState}
theorem x_osa {K : W.Frag} {name : Str} {tk : Tok} {v : Value} {x C : Addr} {fv : Array Value} {cd : ClassData}
    (X : K.In hp) (hx : hp.get? x = some { cls := .ref C, data := .fields fv }) (hcd : W.clsIn K C = some cd) (hm : refsX cd.mro = true) (hh : cd.hasDict = true) (ha : W.findIn K (.ref C) name = some none)
    (hq : ∀ h' tk' dx, (∀ b o, b ≠ x → hp.get? b = some o → h'.get? b = some o) → hp.objs.size ≤ dx → dx ≠ x → h'.get? x = some { cls := .ref C, dict := some dx, data := .fields fv } →
      h'.Ns1 dx (fun y => if y = name then some v else none) → R (.ok (.ret .none)) ⟨h', g, d, tk', os⟩) :
    codeAny (model prog w) A (.call (.builtin "object.__setattr__") ⟨[.ref x, .str name tk, v], []⟩) R ⟨hp, g, d, t, os⟩ := by
  have ia : W.InstAt hp x { cls := .ref C, data := .fields fv } C none := ⟨hx, rfl, rfl, trivial⟩
  have SF := F.store_object
  have n0 := refsX_ne hm
  have h0 : cd.mro.contains (.type "object") = true := (refsX_has "object" _ hm).trans (by decide +kernel)
  have nx : x ≠ hp.objs.size := Nat.ne_of_lt (Heap.lt_size hx)
  have sb : W.Looks (model prog w) hp (isInstance (.ref x) (.type "object")) true :=
    ia.type.andThen (W.looks_mroIn X (by unfold W.mroIn; rw [hcd, Option.bind_some, if_neg (by rw [n0]; decide), h0]))
  refine codeAny_call_builtin SF.slot.plain SF.entry (@W.check_slot (model prog w) _ _ ⟨hp, g, d, t, os⟩ "object.__setattr__" "object" "__setattr__" (.ref x) [.str name tk, v] [] _ SF.kind SF.split sb (SF.args (.ref x) (.str name tk) v) ?_)
  have lm : W.Looks (model prog w) hp (mroOf (.ref C)) cd.mro := (W.looks_clsIn X hcd).andThen .now
  have lt : W.Looks (model prog w) hp (storeTaker? none) none := .now
  have lc : W.Looks (model prog w) hp (classData C) cd := W.looks_clsIn X hcd
  rw [W.osa_eq, refuse_eq]
  refine wpAny_bind (wpAny_bind (ia.type.at (wpAny_bind (lm.at ?_))))
  rw [refsX_pass _ _ hm]
  refine wpAny_pure (wpAny_bind (ia.type.at (wpAny_bind ((W.looks_findIn X ha).at (wpAny_bind (lt.at ?_))))))
  show wpAny _ _ (storeInOwnDict (.ref x) (.ref C) (.str name tk) name v false) _ _ _
  obtain ⟨nm, bs, mro, ns, qn, hd, sn, sb', ab, col, del⟩ := cd
  dsimp only at hh
  subst hh
  unfold storeInOwnDict ownDictForStores
  repeat (first | with_reducible refine store_in_new ?_ ?_ | with_reducible refine wpAny_loadPart_at hx ?_ | with_reducible refine lc.at ?_ | wp_step)
  · exact ⟨_, #[], _, (Heap.get?_update_ne _ _ _ _ nx.symm).trans (Heap.get?_push_at rfl rfl), rfl, fun e he => absurd he (by simp), fun _ => rfl⟩
  · intro h' tk' hn' hs
    have hx1 : (hp.push { cls := .type "dict", data := .dict #[] }).get? x = some { cls := .ref C, data := .fields fv } := Heap.get?_push_of_some _ hx
    refine hq h' tk' hp.objs.size (fun b o hb ho => ?_) (Nat.le_refl _) nx.symm ?_ hn'
    · exact (hs.2 b (Nat.ne_of_lt (Heap.lt_size ho))).trans ((Heap.get?_update_ne _ _ _ _ hb).trans (Heap.get?_push_of_some _ ho))
    · exact (hs.2 x nx).trans (Heap.get?_update_self _ hx1 rfl)
end
end MyX
end PySem
namespace My
open PySem PySem.Spec PyProof.Rows L2
/-- what the written part says of such a class -/
structure OexE (K : PySem.W.Frag) (C : Addr) : Prop where
  cls : ∃ nm q N bs bm sn sub ab col dd k0 k1 k2 k3 k5, K.lookup C = some (excClassObj nm q C N bs bm true sn sub ab col dd k0 k1 k2 k3 k5 "Exception.__new__") ∧ PySem.MyX.refsX bm = true
  sa : PySem.W.findIn K (.ref C) "__setattr__" = some (some (.builtin "object.__setattr__"))
  exC : PySem.W.subIn K (.ref C) (.type "BaseException") = some true
  tyC : PySem.W.typeIn K (.ref C) = some (.type "type")
  kC : PySem.W.keepIn K (.ref C) = true
section
variable {X : Cx} {pins : List (Addr × Obj)} {σ : L2.St} {H : Hp} {s : Shared} {a C dx : Addr} {f : Str} {y : V} {u : Value} {Q : Unit → Shared → Prop} {E : Value → Shared → Prop} {A : Around}
theorem ostE_new (T : OexE X.K C) (I : Inv X pins σ H s) (e : H a = some (exo a C none)) (hno : PySem.W.findIn X.K (.ref C) f = some none) (ry : RelV y u)
    (h : ∀ dx s', H dx = none → dx ≠ a → Inv X pins σ (upd (upd H dx (exd dx [(f, y)])) a (exo a C (some dx))) s' → Q () s') : wpAny (model X.prog X.w) A (setAttr (.ref a) f u) Q E s := by
  obtain ⟨nm, q, N, bs, bm, sn, sub, ab, col, dd, k0, k1, k2, k3, k5, hC, hbm⟩ := T.cls
  have hcl : PySem.W.clsIn X.K C = some { name := nm, bases := bs, mro := .ref C :: bm, ns := N, qualname := q, hasDict := true, slotNames := sn, subclasses := sub, abstract := ab, collection := col, hasDel := false } := by
    unfold PySem.W.clsIn
    rw [hC] <;> rfl
  obtain ⟨t1, ho⟩ := exo_at I.hok e
  obtain ⟨hp, g, d, t, os⟩ := s
  refine PySem.W.set_plain I.kIn (ox := { cls := .ref C, dict := none, data := .fields #[.ref t1, .none, .none, .none, .bool false, .none] }) (od := none) ⟨ho, rfl, rfl, trivial⟩ T.sa ?_
  refine PySem.MyX.x_osa I.kIn ho hcl (show PySem.MyX.refsX (.ref C :: bm) = true from hbm) rfl hno (fun h' tk' dx k dn dne hx hn => ?_)
  have fd : H dx = none := I.hok.fresh dn
  have nd : ∀ {b : Addr} {o : Obj}, hp.get? b = some o → b ≠ dx := fun {b o} q => Nat.ne_of_lt (Nat.lt_of_lt_of_le (Heap.lt_size q) dn)
  have na : ∀ {b : Addr}, H b = none → b ≠ a := fun {b} n z => by
    rw [z, e] at n
    cases n
  have un : Un X.fs [] H (upd (upd H dx (exd dx [(f, y)])) a (exo a C (some dx))) hp h' := {
    keep := fun b o q n _ _ => k b o (na n) q
    slot := fun b o q n _ _ => ⟨o.slots, k b o (na n) q⟩
    free := fun b o q n _ => by
      rw [upd_ne (na n), upd_ne (nd q)]
      exact n
    there := fun b o q _ => by
      by_cases hb : b = a
      · exact ⟨_, by rw [hb]; exact hx⟩
      · exact ⟨o, k b o hb q⟩
    tups := fun b xs q => by
      rw [upd_ne (at_ne e q exo_tup), upd_ne (ne_of_none q fd)]
      exact q
    frzs := fun b o v q => by
      rw [upd_ne (at_ne e q exo_frz), upd_ne (ne_of_none q fd)]
      exact q
    tbls := fun b ps q => ⟨#[], by
      rw [upd_ne (at_ne e q exo_tbl), upd_ne (ne_of_none q fd), q]
      simp⟩ }
  refine h dx _ fd dne (I.un (t' := tk') un fun b o q => ?_)
  by_cases hb : b = a
  · subst hb
    rw [upd_same] at q
    cases q
    exact exo_ok hx
  · rw [upd_ne hb] at q
    by_cases hd : b = dx
    · subst hd
      rw [upd_same] at q
      cases q
      exact exd_ok hn (relO_put (fs := []) ry fun g => True.intro)
    · rw [upd_ne hd] at q
      refine (I.hok b o q).stay (fun c v hc z => k c v ?_ z) (fun c hc => ?_) (fun c xs hc => ?_)
      · rcases hc with hc | hc
        · rw [hc]
          exact hb
        · exact at_ne e hc exo_own
      · rw [upd_ne (at_ne e hc exo_own), upd_ne (ne_of_none hc fd)]
        exact hc
      · rw [upd_ne (at_ne e hc exo_tup), upd_ne (ne_of_none hc fd)]
        exact hc
end
/-- self.f = e, the first field of an exception that is being made -/
def tOstE (K : PySem.W.Frag) (f : Str) (to te : TE) : TS := fun D σ H => te σ H fun y H1 => to σ H1 fun x H2 => ∃ a C : Addr, x = .ref a ∧ OexE K C ∧ PySem.W.findIn K (.ref C) f = some none ∧
  H2 a = some (exo a C none) ∧ ∀ dx, H2 dx = none → dx ≠ a → D.nx σ (upd (upd H2 dx (exd dx [(f, y)])) a (exo a C (some dx)))
theorem ps_ostE {X : Cx} {o e : Expr} {to te : TE} {f : Str} {p' pos : Pos} (ho : PE X o to) (he : PE X e te) (hs : swapsWith e (some (.Attribute o f p')) pos.line X.env = pure false := by rfl) : PS X (.Assign [.Attribute o f p'] e pos) (tOstE X.K f to te) := by
  refine ⟨fun pins s σ H D I h => ?_⟩
  refine plainObj_wpAny_Assign_Attribute (thn (he.run pins s σ H _ I h) fun v s1 ⟨y, H1, I1, r1, q1⟩ => thn (ho.run pins s1 σ H1 _ I1 q1) fun u s2 ⟨x, H2, I2, r2, a, C, ex, T, hno, ea, q⟩ => ?_) hs
  subst ex
  obtain rfl : u = Value.ref a := r2
  exact ostE_new T I2 ea hno r1 fun dx s' n ne J => ⟨σ, _, J, q dx n ne⟩
end My

set_option Elab.async false
set_option maxRecDepth 100000
set_option maxHeartbeats 4000000
set_option linter.all false
namespace My
open PySem PySem.Spec PyProof.Rows L2
/-- C(e, ..) as a value, C's __init__ keeping sp -/
def tMkE (C : Addr) (sp : Sp) (dvs : List V) (ta : TA) : TE := fun σ H Q => ta σ H fun vs H1 => vs.length ≤ 1000 ∧ ∀ a, H1 a = none → sp (.ref a :: (vs ++ dvs)) (upd H1 a (exo a C none)) (fun v H2 => v = .non ∧ Q (.ref a) H2) (fun _ _ _ => False)
section
variable {X : Cx} {pins : List (Addr × Obj)} {σ : L2.St} {H1 : Hp} {CX : CXT} {x : Str} {C fI : Addr} {k : Nat} {fd : FuncData} {ps : List Str} {sp : Sp} {ds us : List Value} {dvs vs : List V} {s1 : Shared}
/-- the class's __init__ stands and keeps its promise -/
structure IniE (X : Cx) (CX : CXT) (C fI : Addr) (k : Nat) (fd : FuncData) (ps : List Str) (sp : Sp) (ds : List Value) (dvs : List V) : Prop where
  T : OexE X.K C
  iC : PySem.W.findIn X.K (.ref C) "__init__" = some (some (.ref fI))
  tI : PySem.W.typeIn X.K (.ref fI) = some (.type "function")
  F1 : FnOk X.prog X.w X.K X.mg X.base CX k fI fd ps sp
  hb : Binds X.K fd ps ds
  hd : Vals dvs ds
theorem run_own {R : Result → Shared → Prop} (J : IniE X CX C fI k fd ps sp ds dvs) (hr : Room (k + 1) X.A) (I1 : Inv X pins σ H1 s1) (r1 : Vals vs us) (hz : vs.length ≤ 1000) {Q1 : VK} {E1 : XK}
    (hq : sp (.ref (s1.heap.objs.size + 1) :: (vs ++ dvs)) (upd H1 (s1.heap.objs.size + 1) (exo (s1.heap.objs.size + 1) C none)) Q1 E1)
    (fin : ∀ (hp2 : Heap) (r : Result) (s' : Shared), (∀ b o, s1.heap.get? b = some o → hp2.get? b = some o) →
      Inv X pins σ (upd H1 (s1.heap.objs.size + 1) (exo (s1.heap.objs.size + 1) C none)) { s1 with heap := hp2 } →
      CR CX X.stack X.prog X.w (upd H1 (s1.heap.objs.size + 1) (exo (s1.heap.objs.size + 1) C none)) { s1 with heap := hp2 } Q1 E1 r s' → PySem.W.InitBack (s1.heap.objs.size + 1) R r s') :
    codeAny (model X.prog X.w) X.A (.call (.ref C) ⟨us, []⟩) R s1 := by
  obtain ⟨nm, q, N, bs, bm, sn, sub, ab, col, dd, k0, k1, k2, k3, k5, hC, hbm⟩ := J.T.cls
  obtain ⟨hp, g, dr, tk, os⟩ := s1
  have hs : hp.objs.size ≤ hp.objs.size + 1 := Nat.le_succ _
  have kk : ∀ b o, hp.get? b = some o → ((hp.push (PySem.W.kdv_tup us)).push (PySem.HandSPX.excO C hp.objs.size)).get? b = some o := fun b o e => Heap.get?_push_of_some _ (Heap.get?_push_of_some _ e)
  have hg : ((hp.push (PySem.W.kdv_tup us)).push (PySem.HandSPX.excO C hp.objs.size)).get? (hp.objs.size + 1) = some (PySem.HandSPX.excO C hp.objs.size) := by heap_get
  have I2 : Inv X pins σ (upd H1 (hp.objs.size + 1) (exo (hp.objs.size + 1) C none)) ⟨(hp.push (PySem.W.kdv_tup us)).push (PySem.HandSPX.excO C hp.objs.size), g, dr, tk, os⟩ :=
    I1.laid (t' := tk) (a := hp.objs.size + 1) (o := exo (hp.objs.size + 1) C none) (h' := (hp.push (PySem.W.kdv_tup us)).push (PySem.HandSPX.excO C hp.objs.size)) kk hs (exo_ok hg)
  have r2 : Vals (V.ref (hp.objs.size + 1) :: (vs ++ dvs)) (Value.ref (hp.objs.size + 1) :: (us ++ ds)) := .cons rfl (r1.append J.hd)
  have hl : (Value.ref (hp.objs.size + 1) :: us ++ ds).length = ps.length := by
    have e := r2.length
    rw [J.F1.len _ _ _ _ hq] at e
    exact e.symm
  have hus : us.length ≤ sizeLine := by
    rw [← Paired.length r1, sizeLine_eq]
    omega
  refine PySem.HandSPX.call_own F.excBase_Exception (fun Y => PySem.MyX.refsX_has Y bm hbm) (I1.kIn _ _ hC) (PySem.W.looks_findIn I1.kIn J.iC) (fun self => PySem.W.bind_fn I1.kIn self J.tI) hus
    (codeAny_mono (J.F1.run _ X.stack _ _ ⟨Value.ref (hp.objs.size + 1) :: us, []⟩ (Value.ref (hp.objs.size + 1) :: (us ++ ds)) _ Q1 E1 (hr.make C us []) (I2.env0.make C us []) (J.hb _ (Value.ref (hp.objs.size + 1) :: us) I2.kIn hl) r2 hq) fun r s' hq' => ?_)
  exact fin _ r s' kk I2 hq'
theorem run_mkE (J : IniE X CX C fI k fd ps sp ds dvs) (hr : Room (k + 1) X.A) (hx : Passes CX X (fun _ _ _ => False)) (I1 : Inv X pins σ H1 s1) (r1 : Vals vs us) {Q : VK} (hz : vs.length ≤ 1000)
    (q1 : ∀ a, H1 a = none → sp (.ref a :: (vs ++ dvs)) (upd H1 a (exo a C none)) (fun v H2 => v = .non ∧ Q (.ref a) H2) (fun _ _ _ => False)) : wpAny (model X.prog X.w) X.A (call (.ref C) us) (EP X pins σ Q) X.xe s1 := by
  refine wpAny_call (run_own J hr I1 r1 hz (q1 _ (I1.hok.fresh (Nat.le_succ _))) fun hp2 r s' kk I2 hq' => ?_)
  cases r with
  | error er => exact hx pins σ _ _ er s' I2 hq'
  | ok fl =>
    cases fl with
    | ret u =>
      obtain ⟨v, H', I3, rv, ev, q3⟩ := I2.after hq'
      subst ev
      exact ⟨rv, ⟨V.ref (s1.heap.objs.size + 1), H', I3, rfl, q3⟩⟩
    | next => exact False.elim hq'
    | brk => exact False.elim hq'
    | cont => exact False.elim hq'
theorem run_mkR (J : IniE X CX C fI k fd ps sp ds dvs) (hr : Room (k + 1) X.A) (hx : Passes CX X (fun _ _ _ => False)) (I1 : Inv X pins σ H1 s1) (r1 : Vals vs us) {Q : XK} (hz : vs.length ≤ 1000)
    (q1 : ∀ a, H1 a = none → sp (.ref a :: (vs ++ dvs)) (upd H1 a (exo a C none)) (fun v H2 => v = .non ∧ ∃ (d : Addr) (fs : List (Str × V)), H2 a = some (exo a C (some d)) ∧ H2 d = some (exd d fs) ∧ H1 d = none ∧ Q (.ref C) (some d) (upd (del H2 a) d (.xd fs))) (fun _ _ _ => False)) :
    wpAny (model X.prog X.w) X.A (call (.ref C) us) (MkP X pins σ Q) X.xe s1 := by
  refine wpAny_call (run_own J hr I1 r1 hz (q1 _ (I1.hok.fresh (Nat.le_succ _))) fun hp2 r s' kk I2 hq' => ?_)
  cases r with
  | error er => exact hx pins σ _ _ er s' I2 hq'
  | ok fl =>
    cases fl with
    | ret u =>
      obtain ⟨v, H2, os2, bare2, un2, hok2, rv, ev, d, fs, ea, ed, hd1, q2⟩ := hq'
      subst ev
      obtain ⟨hp, g, dr, tk, os⟩ := s1
      obtain ⟨h2, g2, d2, t2, os'⟩ := s'
      exact ⟨rv, mk_end (raises_own J.T.exC J.T.tyC) I1 (Nat.le_succ _) kk un2 hok2 os2 bare2 ea ed hd1 q2⟩
    | next => exact False.elim hq'
    | brk => exact False.elim hq'
    | cont => exact False.elim hq'
end
section
variable {X : Cx} {CX : CXT} {x : Str} {C fI : Addr} {k : Nat} {fd : FuncData} {ps : List Str} {sp : Sp} {ds : List Value} {dvs : List V} {e : Expr} {es : List Expr} {ta : TA} {p pos : Pos}
theorem pe_mkE (J : IniE X CX C fI k fd ps sp ds dvs) (hr : Room (k + 1) X.A) (hx : Passes CX X (fun _ _ _ => False)) (hg : Gl X x) (hm : X.mg x = some (.ref C)) (ha : PA X (e :: es) ta)
    (hdb : (x == ("__debug__" : Str)) = false := by decide) (he : starEach (e :: es) X.env = (false, eval e X.env) :: starEach es X.env := by rfl) (hpl : (backTo pos (starEach es X.env)).any (·.1) = false := by rfl) :
    PE X (.Call (.Name x p) (e :: es) [] pos) (tMkE C sp dvs ta) := by
  refine ⟨fun pins s σ H Q I h => ?_⟩
  refine wpAny_Call_Name_kw (ld_glob I hg hm ?_ hdb)
  refine PySem.W.callWith_K (h₀ := X.base) I.ok.mod.kin J.T.kC (thn (ha.run pos pins s σ H _ I h) fun us s1 ⟨vs, H1, I1, r1, hz, q1⟩ => ⟨I1.kIn, ?_⟩) he hpl
  exact run_mkE J hr hx I1 r1 hz q1
theorem pe_mkE0 (J : IniE X CX C fI k fd ps sp ds dvs) (hr : Room (k + 1) X.A) (hx : Passes CX X (fun _ _ _ => False)) (hg : Gl X x) (hm : X.mg x = some (.ref C)) (hdb : (x == ("__debug__" : Str)) = false := by decide) :
    PE X (.Call (.Name x p) [] [] pos) (tMkE C sp dvs tNil) := by
  refine ⟨fun pins s σ H Q I h => ?_⟩
  refine wpAny_Call_Name_kw (ld_glob I hg hm ?_ hdb)
  exact PySem.W.callWith_K0 I.kIn J.T.kC (run_mkE (us := []) (vs := []) J hr hx I .nil h.1 h.2)
theorem pmk_E (J : IniE X CX C fI k fd ps sp ds dvs) (hr : Room (k + 1) X.A) (hx : Passes CX X (fun _ _ _ => False)) (hg : Gl X x) (hm : X.mg x = some (.ref C)) (ha : PA X (e :: es) ta)
    (hdb : (x == ("__debug__" : Str)) = false := by decide) (he : starEach (e :: es) X.env = (false, eval e X.env) :: starEach es X.env := by rfl) (hpl : (backTo pos (starEach es X.env)).any (·.1) = false := by rfl) :
    PMk X (.Call (.Name x p) (e :: es) [] pos) (tMkO C sp dvs ta) := by
  intro pins s σ H Q I h
  refine wpAny_Call_Name_kw (ld_glob I hg hm ?_ hdb)
  refine PySem.W.callWith_K (h₀ := X.base) I.ok.mod.kin J.T.kC (thn (ha.run pos pins s σ H _ I h) fun us s1 ⟨vs, H1, I1, r1, hz, q1⟩ => ⟨I1.kIn, ?_⟩) he hpl
  exact run_mkR J hr hx I1 r1 hz q1
theorem pmk_E0 (J : IniE X CX C fI k fd ps sp ds dvs) (hr : Room (k + 1) X.A) (hx : Passes CX X (fun _ _ _ => False)) (hg : Gl X x) (hm : X.mg x = some (.ref C)) (hdb : (x == ("__debug__" : Str)) = false := by decide) :
    PMk X (.Call (.Name x p) [] [] pos) (tMkO C sp dvs tNil) := by
  intro pins s σ H Q I h
  refine wpAny_Call_Name_kw (ld_glob I hg hm ?_ hdb)
  exact PySem.W.callWith_K0 I.kIn J.T.kC (run_mkR (us := []) (vs := []) J hr hx I .nil h.1 h.2)
end
end My

set_option Elab.async false
set_option maxRecDepth 100000
set_option maxHeartbeats 4000000
set_option linter.all false
namespace My
open PySem PySem.Spec PyProof.Rows L2
/-- at a an exception of the class at C stands as a value, its fields fs -/
def Exv (H : Hp) (a C : Addr) (fs : List (Str × V)) : Prop := ∃ dx, H a = some (exo a C (some dx)) ∧ H dx = some (exd dx fs)
theorem Exv.same {H H' : Hp} {a C : Addr} {fs : List (Str × V)} (h : Exv H a C fs) (s : Same H H') : Exv H' a C fs := by
  obtain ⟨dx, h1, h2⟩ := h
  exact ⟨dx, s _ _ h1, s _ _ h2⟩
section
variable {X : Cx} {pins : List (Addr × Obj)} {σ : L2.St} {H : Hp} {s : Shared} {a C : Addr} {fs : List (Str × V)}
theorem Exv.at (h : Exv H a C fs) (I : Inv X pins σ H s) : ∃ (oe od : Obj) (mA : Str → Option Value), PySem.W.InstAt s.heap a oe C (some od) ∧ (∀ f, RelO (fs.lookup f) (mA f)) ∧ ∀ n, PySem.W.lookIn n od = some (mA n) := by
  obtain ⟨dx, h1, h2⟩ := h
  obtain ⟨t1, ho⟩ := exo_at I.hok h1
  obtain ⟨mA, hns, rel⟩ := exd_at I.hok h2
  obtain ⟨od, hod, hl⟩ := lookIn_ns hns
  exact ⟨_, od, mA, ⟨ho, rfl, rfl, hod⟩, rel, hl⟩
end
/-- isinstance(e, c) of an exception that is held as a value -/
def rIsV (K : PySem.W.Frag) : List V → Hp → VK → Prop := fun xs H Q => ∃ (a D : Addr) (fs : List (Str × V)) (c : V) (cv : Value) (b : Bool), xs = [.ref a, c] ∧ ExcC K D ∧ Exv H a D fs ∧ ClsV c cv ∧ PySem.W.kitOne K (.ref D) cv = some b ∧ Q (.bl b) H
def rIsVT (K : PySem.W.Frag) : List V → Hp → VK → Prop := fun xs H Q => ∃ (a D tp : Addr) (fs : List (Str × V)) (cs : List V) (us : List Value) (b : Bool), xs = [.ref a, .ref tp] ∧ ExcC K D ∧ Exv H a D fs ∧ H tp = some (.tup cs) ∧ Paired ClsV cs us ∧ PySem.W.kitAny K (.ref D) us = some b ∧ Q (.bl b) H
section
variable {X : Cx}
theorem kit_exv {pins : List (Addr × Obj)} {σ : L2.St} {H : Hp} {s : Shared} {a D : Addr} {fs : List (Str × V)} (T : ExcC X.K D) (h : Exv H a D fs) (I : Inv X pins σ H s) : ∃ P : Heap → Prop, PySem.W.KitX X.K (.ref a) (.ref D) P ∧ P s.heap := by
  obtain ⟨oe, od, mA, J, _⟩ := h.at I
  obtain ⟨cd, hc, _⟩ := PySem.W.any_some T.hd
  exact ⟨_, PySem.W.kitx_exc (by rw [hc]; rfl) T.hg T.hk T.hs T.ha T.hn T.ht T.hm, J⟩
theorem call_isV : CallR X (.builtin "isinstance") (rIsV X.K) := by
  intro pins s σ H xs us Q I r h
  obtain ⟨a, D, fs, c, cv, b, rfl, T, ex, k, e, q⟩ := h
  obtain ⟨u1, u2, rfl, r1, r2⟩ := vals2 r
  have e2 := k.eq r2
  subst e2
  cases (show u1 = Value.ref a from r1)
  obtain ⟨P, Z, p⟩ := kit_exv T ex I
  exact PySem.W.kia_one Z I.kIn p e (fun z => nomatch z) fun tk => ⟨.bl b, H, I.tok tk, rfl, q⟩
theorem call_isVT : CallR X (.builtin "isinstance") (rIsVT X.K) := by
  intro pins s σ H xs us Q I r h
  obtain ⟨a, D, tp, fs, cs, ws, b, rfl, T, ex, hT, k, e, q⟩ := h
  obtain ⟨u1, u2, rfl, r1, r2⟩ := vals2 r
  cases (show u1 = Value.ref a from r1)
  cases (show u2 = Value.ref tp from r2)
  obtain ⟨P, Z, p⟩ := kit_exv T ex I
  obtain ⟨_, its, rv, o, h1, h2, n, h3⟩ := (show ObjOk X.prog X.w H s.heap tp (.tup cs) from I.hok tp _ hT)
  have e3 := ClsV.all k rv
  subst e3
  obtain ⟨oc, od, dt, sl⟩ := o
  simp only at h2 h3
  subst h2 h3
  exact PySem.W.kia_tup Z I.kIn p h1 e (fun z => nomatch z) fun tk => ⟨.bl b, H, I.tok tk, rfl, q⟩
/-- e.n of an exception that is held as a value -/
def tXv (K : PySem.W.Frag) (n : Str) (te : TE) : TE := fun σ H Q => te σ H fun x H1 => ∃ (a C : Addr) (fs : List (Str × V)) (v : V), x = .ref a ∧ XfC K C ∧ PySem.W.findIn K (.ref C) n = some none ∧ Exv H1 a C fs ∧ fs.lookup n = some v ∧ Q v H1
theorem pe_xv {e : Expr} {te : TE} {pos : Pos} {n : Str} (he : PE X e te) (hb : attributeBase e n X.env (eval e X.env) = eval e X.env := by rfl) : PE X (.Attribute e n pos) (tXv X.K n te) := by
  refine ⟨fun pins s σ H Q I h => ?_⟩
  refine attr_of hb (thn (he.run pins s σ H _ I h) fun u s1 hh => ?_)
  obtain ⟨x, H1, I1, rx, a, C, fs, v, ex, T, hno, ev, l, q⟩ := hh
  subst ex
  obtain rfl : u = Value.ref a := rx
  obtain ⟨oe, od, mA, J, rel, hl⟩ := ev.at I1
  obtain ⟨u, hu, ru⟩ := RelO.some_of (v := v) (o := mA n) (by rw [← l]; exact rel n)
  exact HandSPX.exc_get I1.kIn J T.ga T.gg T.exC (PySem.W.findObj_own T.hdC hno rfl (by rw [hl, hu])) (handed_of ru) ⟨v, H1, I1.tok _, ru, q⟩
end
end My

set_option Elab.async false
set_option maxRecDepth 100000
set_option maxHeartbeats 4000000
set_option linter.all false
/-! try with several clauses «except X as n» -/
namespace My
open PySem PySem.Spec PyProof.Rows L2
/-- what stands behind a suite: its name is gone -/
def endA (D : Ends) (i : Nat) : Ends := { nx := fun σ' H' => D.nx (σ'.set i none) H', rt := D.rt, bk := fun σ' H' => D.bk (σ'.set i none) H', ct := fun σ' H' => D.ct (σ'.set i none) H' }
def wManyA (K : PySem.W.Frag) (Wout : WX) (D : Ends) : List (Value × Nat × (Addr → Value → Option Addr → TS)) → WX
  | [] => Wout
  | (c, i, ts) :: r => fun cls d σ H => ∃ b, PySem.W.exmOne K cls c = some b ∧ (b = true → ∀ a, H a = none → ts a cls d (endA D i) (σ.set i (some (.ref a))) H) ∧ (b = false → wManyA K Wout D r cls d σ H)
inductive HdsA (X : Cx) : List ExceptHandler → List (Value × Nat × (Addr → Value → Option Addr → TS)) → Prop
  | nil : HdsA X [] []
  | cons {x n : Str} {c : Value} {i : Nat} {ts : Addr → Value → Option Addr → TS} {b₀ : Stmt} {suite : List Stmt} {np pos' : Pos} {hds : List ExceptHandler} {l : List (Value × Nat × (Addr → Value → Option Addr → TS))} (hc : Names X x c)
      (hi : X.N[i]? = some n) (hln : X.env.kindOf n = some .local)
      (hsu : ∀ (a : Addr) (oe : Obj) (cls : Value) (d : Option Addr) (pn : List (Addr × Obj)), Zc cls d oe → (∃ vs, oe.data = .fields vs) → PSs (X.suite a ((a, oe) :: pn)) (b₀ :: suite) (ts a cls d)) (r : HdsA X hds l) :
      HdsA X (.ExceptHandler (some (.Name x np)) (some n) (b₀ :: suite) pos' :: hds) ((c, i, ts) :: l)
section
variable {X : Cx} {body : List Stmt} {h₀ : ExceptHandler} {hds : List ExceptHandler} {l : List (Value × Nat × (Addr → Value → Option Addr → TS))} {pos : Pos} {tb : WX → TS} {Wout : WX}
theorem ps_try_manyA (hs : X.stack = X.env :: X.outer) (hf : X.env.frame = some X.env.locals) (hN : X.N.Nodup) (tk : Takes X Wout)
    (hb : ∀ (W : WX) (pn : List (Addr × Obj)) (xe : Value → Shared → Prop), Takes (X.tr pn xe) W → PassesOwn (model X.prog X.w) X.A X.env xe → PSs (X.tr pn xe) body (tb W))
    (hh : HdsA X (h₀ :: hds) l) : PS X (.Try body (h₀ :: hds) [] [] pos) (fun D σ H => tb (wManyA X.K Wout D l) D σ H) := by
  refine ⟨fun pins s σ H D I h => ?_⟩
  have ok := I.ok
  have fr : X.A.frames = some (X.env :: X.outer) := by rw [ok.frames, hs]
  refine wpAny_Try_except ?_
  refine wpAny_mono ((hb (wManyA X.K Wout D l) (X.pn ++ pins) (fun e s₁ => wpAny (model X.prog X.w) X.A (noteFrame e X.env) (fun _ s₂ => wpAny (model X.prog X.w) X.A (setFlight e none) (fun _ s₃ =>
    wpAny (model X.prog X.w) X.A (handleBy e X.env (h₀ :: hds)) (SP X pins D) X.xe s₃) X.xe s₂) X.xe s₁) (fun u s' xx => ?_) PassesOwn.looking).run [] s σ H D (I.toTry _) h) (fun f s1 hsp => ?_) (fun e s1 he => he)
  · obtain ⟨a, B, sI, pins', σ', H', cls, d, rfl, J', nb, up, sky, na, os, ag, w⟩ := xx
    have J : Inv X pins σ' H' sI := J'.ofTry ok
    have sk : Sky B (X.env :: X.outer) a (Zc cls d) X.env.locals s'.heap := by
      rw [← hs]
      exact sky
    show wpAny (model X.prog X.w) X.A (noteFrame (.ref a) X.env) _ _ _
    refine Sky.land Zc.steady fr hf sk fun h3 fl3 up3 => ?_
    have J3 : Inv X pins σ' H' { s' with heap := h3 } := J.landed nb fl3.1 (up.trans up3) os ag
    obtain ⟨oe3, vs3, he3, hz3, hd3⟩ := fl3.there
    have nfr : a ∉ frs (X.env :: X.outer) := fun hm => by
      obtain ⟨_, o', e', hnf⟩ := fl3.2.2.1.mem hm
      rw [he3] at e'
      cases e'
      exact hnf _ hd3
    have nL : a ≠ X.env.locals := fun z => nfr (List.mem_filterMap.mpr ⟨X.env, List.mem_cons_self, by rw [hf, z]⟩)
    have nF : a ∉ X.fs := fun hm => by
      obtain ⟨e, he, q⟩ := List.mem_filterMap.mp hm
      exact nfr (List.mem_filterMap.mpr ⟨e, List.mem_cons_of_mem _ he, q⟩)
    have S3 := J3.suite he3 hd3 na nL nF
    have go : ∀ {hds' : List ExceptHandler} {l' : List (Value × Nat × (Addr → Value → Option Addr → TS))}, HdsA X hds' l' → wManyA X.K Wout D l' cls d σ' H' →
        wpAny (model X.prog X.w) X.A (handleBy (.ref a) X.env hds') (SP X pins D) X.xe { s' with heap := h3 } := by
      intro hds' l' hk
      induction hk with
      | nil =>
        intro w
        refine wpAny_handleBy_nil ?_
        obtain ⟨k1, k2, k3, oe, vs, T, oT, ts', he, hz, hd, h1, hr⟩ := id fl3
        unfold PySem.passOn
        refine wpAny_bind (wpAny_field he hd h1 ?_)
        rw [if_neg (show ¬ ((Value.ref T == Value.none) = true) from by simp)]
        have fin : wpAny (model X.prog X.w) X.A (setFlight (.ref a) X.env.frame) (fun _ s4 => wpAny (model X.prog X.w) X.A (throw (.ref a) : Sem Flow) (SP X pins D) X.xe s4) X.xe { s' with heap := h3 } := by
          rw [hf]
          refine HandSPX.setFlight_upZ fl3 fun h4 hh4 up4 => wpAny_throw (tk _ _ ?_)
          exact ⟨a, B, sI, pins, σ', H', cls, d, rfl, J, nb, (up.trans up3).trans up4, .inr (.inr (by rw [hs]; exact hh4)), na, os, ag, w⟩
        first
          | exact wpAny_bind (wpAny_pure (wpAny_bind fin))
          | exact wpAny_bind fin
      | @cons x n c i ts b₀ suite np pos' hds2 l2 hc hi hln hsu r ih =>
        intro w
        obtain ⟨b, hb1, hyes, hno⟩ := w
        refine wpAny_handleBy_cons (codeAny_handlers_test ?_) (by intro q; cases q)
        have LT : PySem.W.Looks (model X.prog X.w) h3 (typeOf (.ref a)) cls := fun A Q E s k q => wpAny_typeOf_ref (k _ _ he3) (by rw [hz3.1]; exact q)
        have LM := PySem.W.exm_one (M := model X.prog X.w) (J3.kIn) LT hb1
        have test : ∀ {Q : Value → Shared → Prop} {E : Value → Shared → Prop}, Q c { s' with heap := h3 } → wpAny (model X.prog X.w) (X.A.mark (some (.ref a))) (eval (.Name x np) X.env) Q E { s' with heap := h3 } := fun {Q E} q => by
          obtain ⟨hg, hdbg, hm | ⟨hm, hv, hnn⟩⟩ := hc
          · exact ld_glob (X := X.suite a ((a, oe3) :: (X.pn ++ pins))) S3 hg hm q hdbg
          · exact ld_blt (X := X.suite a ((a, oe3) :: (X.pn ++ pins))) S3 hg hm hv q hnn hdbg
        refine test (LM.here ?_)
        cases b with
        | true =>
          refine codeAny_handlers_suite_as ?_
          refine HandSPX.lands_againZ fl3 fun h4 fl4 up4 => ?_
          have J4 : Inv X pins σ' H' { s' with heap := h4 } := J.landed nb fl4.1 ((up.trans up3).trans up4) os ag
          obtain ⟨oe4, vs4, he4, hz4, hd4⟩ := fl4.there
          have S4 := J4.suite he4 hd4 na nL nF
          refine store_ok (X := X.suite a ((a, oe4) :: (X.pn ++ pins))) (v := .ref a) S4 hN hi (.inl hln) rfl (fun s5 S5 => ?_) (.inr hln)
          refine wpAny_mono ((hsu a oe4 cls d (X.pn ++ pins) hz4 ⟨_, hd4⟩).run [] s5 _ H' _ S5 (hyes rfl a na)) (fun f s6 hsp => ?_) (fun _ _ z => False.elim z)
          have ends : ∀ {σ6 : L2.St} {H6 : Hp} {Q : Shared → Prop}, Inv (X.suite a ((a, oe4) :: (X.pn ++ pins))) [] σ6 H6 s6 → (∀ s7, Inv X pins (σ6.set i none) H6 s7 → Q s7) →
              wpAny (model X.prog X.w) X.A (do bindName X.env n .none; unbindBehindTheSuite X.env n pos') (fun _ s7 => Q s7) X.xe s6 := fun {σ6 H6 Q} S6 hq => gone_ok (S6.unsuite ok) hN hi hln hq
          cases f with
          | next =>
            obtain ⟨σ6, H6, S6, q6⟩ := hsp
            exact ends S6 fun s7 J7 => ⟨_, _, J7, q6⟩
          | brk =>
            obtain ⟨σ6, H6, S6, q6⟩ := hsp
            exact ends S6 fun s7 J7 => ⟨_, _, J7, q6⟩
          | cont =>
            obtain ⟨σ6, H6, S6, q6⟩ := hsp
            exact ends S6 fun s7 J7 => ⟨_, _, J7, q6⟩
          | ret u =>
            obtain ⟨v6, σ6, H6, S6, r6, q6⟩ := hsp
            exact ends S6 fun s7 J7 => ⟨_, _, _, J7, r6, q6⟩
        | false =>
          show wpAny _ X.A (handleBy (.ref a) X.env hds2) _ _ _
          exact ih (hno rfl)
    exact go hh w
  · cases f with
    | next =>
      obtain ⟨σ', H', J', q⟩ := hsp
      exact wpAny_execs_nil ⟨σ', H', J'.ofTry ok, q⟩
    | brk =>
      obtain ⟨σ', H', J', q⟩ := hsp
      exact ⟨σ', H', J'.ofTry ok, q⟩
    | cont =>
      obtain ⟨σ', H', J', q⟩ := hsp
      exact ⟨σ', H', J'.ofTry ok, q⟩
    | ret u =>
      obtain ⟨v, σ', H', J', r, q⟩ := hsp
      exact ⟨v, σ', H', J'.ofTry ok, r, q⟩
end
end My

set_option Elab.async false
set_option maxRecDepth 100000
set_option maxHeartbeats 4000000
set_option linter.all false
/-! Defs that may raise, by their name; isinstance of a caught exception that has a dict. -/
namespace My
open PySem PySem.Spec PyProof.Rows L2
def PrX (P : Program) (w : World) (K : PySem.W.Frag) (mg : Str → Option Value) (base : Heap) (k : Nat) (x : Str) (ps : List Str) (sp : Sp) : Prop :=
  ∃ f fd, FnOk P w K mg base (L2.CX P w) k f fd ps sp ∧ mg x = some (.ref f) ∧ PySem.W.keepIn K (.ref f) = true ∧ Binds K fd ps []
theorem pe_callPX {X : Cx} {W : WX} {k : Nat} {x : Str} {ps : List Str} {sp : Sp} {e : Expr} {es : List Expr} {t : TA} {p pos : Pos}
    (h : PrX X.prog X.w X.K X.mg X.base k x ps sp) (hr : Room k X.A) (hg : Gl X x) (tk : Takes X W) (ha : PA X (e :: es) t)
    (hdb : (x == ("__debug__" : Str)) = false := by decide) (he : starEach (e :: es) X.env = (false, eval e X.env) :: starEach es X.env := by rfl) (hpl : (backTo pos (starEach es X.env)).any (·.1) = false := by rfl) :
    PE X (.Call (.Name x p) (e :: es) [] pos) (tCallS sp (WE W) t) := by
  obtain ⟨f, fd, F, hm, hk, hb⟩ := h
  exact pe_callS F hr hg hm hk hb (fun σ => passAt tk σ) ha hdb he hpl
/-- where nothing is raised, the def is as one that raises nothing -/
theorem PrX.calm {P : Program} {w : World} {K : PySem.W.Frag} {mg : Str → Option Value} {base : Heap} {k : Nat} {x : Str} {ps : List Str} {sp : Sp} (h : PrX P w K mg base k x ps sp) :
    Pr P w K mg base k x ps (fun vs H Q _ => sp vs H Q (fun _ _ _ => False)) := by
  obtain ⟨f, fd, F, hm, hk, hb⟩ := h
  refine ⟨f, fd, ⟨fun vs H Q E h => F.len _ _ _ _ h, fun A outer s H args us vs Q E hr e0 b r hsp => ?_⟩, hm, hk, hb⟩
  refine codeAny_mono (F.run A outer s H args us vs Q _ hr e0 b r hsp) fun r s' h => ?_
  cases r with
  | error e =>
    obtain ⟨_, _, _, _, _, _, _, _, _, _, _, _, z⟩ := h
    exact z.elim
  | ok fl =>
    cases fl with
    | ret u => exact h
    | next => exact h
    | brk => exact h
    | cont => exact h
/-- isinstance(e, c), e the exception that the suite holds, with a dict of its own -/
def rIsP (K : PySem.W.Frag) (a : Addr) (cls : Value) (d : Option Addr) : List V → Hp → VK → Prop := fun xs H Q => ∃ (D dd : Addr) (fs : List (Str × V)) (c : V) (cv : Value) (b : Bool), xs = [.ref a, c] ∧ cls = .ref D ∧ d = some dd ∧ H dd = some (.xd fs) ∧ ExcC K D ∧ ClsV c cv ∧ PySem.W.kitOne K (.ref D) cv = some b ∧ Q (.bl b) H
theorem call_isP {X : Cx} {a : Addr} {oe : Obj} {cls : Value} {d : Option Addr} {pn : List (Addr × Obj)} (hz : Zc cls d oe) (hf : ∃ vs, oe.data = .fields vs) : CallR (X.suite a ((a, oe) :: pn)) (.builtin "isinstance") (rIsP X.K a cls d) := by
  intro pins s σ H xs us Q I r h
  obtain ⟨D, dd, fs, c, cv, b, rfl, rfl, rfl, ea, C, k, e, q⟩ := h
  obtain ⟨u1, u2, rfl, r1, r2⟩ := vals2 r
  have e2 := k.eq r2
  subst e2
  cases (show u1 = Value.ref a from r1)
  obtain ⟨hget, _⟩ := I.pin (a, oe) (List.mem_append.mpr (.inl List.mem_cons_self))
  obtain ⟨vs, hv⟩ := hf
  obtain ⟨mA, hns, hr⟩ := (show ObjOk X.prog X.w H s.heap dd (.xd fs) from I.hok dd _ ea)
  obtain ⟨od, ho, hl⟩ := lookIn_ns hns
  have J : PySem.W.InstAt s.heap a oe D (some od) := ⟨hget, hz.1, by unfold PySem.W.notCls; rw [hv] <;> rfl, by rw [hz.2]; exact ho⟩
  obtain ⟨cd, hc, _⟩ := PySem.W.any_some C.hd
  exact PySem.W.kia_one (PySem.W.kitx_exc (by rw [hc]; rfl) C.hg C.hk C.hs C.ha C.hn C.ht C.hm) I.kIn J e (fun z => nomatch z) fun tk => ⟨.bl b, H, I.kept (t' := tk) fun _ _ z => z, rfl, q⟩
end My

set_option Elab.async false
set_option maxRecDepth 100000
set_option maxHeartbeats 4000000
set_option linter.all false
namespace C79
open PySem L2 My M78
abbrev sInit : Stmt := inClass (top 1) 0
abbrev fld : Str := "sqlite_errorname"
/-- what the top has made of the three classes -/
structure Cls3 (K : PySem.W.Frag) (mg : Str → Option Value) (CE CD CP fI : Addr) : Prop where
  oe : OexE K CP
  ec : ExcC K CP
  no : PySem.W.findIn K (.ref CP) fld = some none
  ini : PySem.W.findIn K (.ref CP) "__init__" = some (some (.ref fI))
  tI : PySem.W.typeIn K (.ref fI) = some (.type "function")
  gE : mg "Error" = some (.ref CE)
  gD : mg "DatabaseError" = some (.ref CD)
  gP : mg "ProgrammingError" = some (.ref CP)
  kit : PySem.W.kitOne K (.ref CP) (.ref CD) = some true
  exm : PySem.W.exmOne K (.ref CP) (.ref CP) = some true

def allW : List Wd := [.beg, .imm, .exc, .com, .rol, .rea, .sta, .sto, .wri]
/-- the word that this is -/
def wOf : PyData → Option Wd
  | .str x => allW.find? fun v => wS v == x
  | _ => none
theorem wOf_some {d : PyData} {v : Wd} (h : wOf d = some v) : d = .str (wS v) := by
  cases d with
  | str x =>
    have := List.find?_some (p := fun v => wS v == x) h
    rw [eq_of_beq this]
  | _ => cases h
theorem wOf_none {x : Str} (h : wOf (.str x) = none) : inV (.str x) (([.str (Str.ofString "begin"), .str (Str.ofString "immediate"), .str (Str.ofString "exclusive")] ++ [.str (Str.ofString "commit"), .str (Str.ofString "rollback")]) ++ [.str (Str.ofString "read"), .str (Str.ofString "start"), .str (Str.ofString "stop"), .str (Str.ofString "write")]) = false := by
  have h2 := List.find?_eq_none.mp (show allW.find? (fun v => wS v == x) = none from h)
  show ((wV allW).any fun y => eqV y (.str x)) = false
  rw [List.any_eq_false]
  intro y hy
  obtain ⟨v, hv, rfl⟩ := List.mem_map.mp hy
  exact h2 v hv
/-- words that may stand so, from given flags on -/
def scn : Bool → Bool → List PyData → Bool
  | _, _, [] => true
  | o, r, d :: ds => match wOf d with
    | some v => okW v o r && scn (opB v o) (rdB v r) ds
    | none => false
def sc1 (ds : List PyData) : Bool := decide (ds.length ≤ 8) && scn false false ds
/-- a script -/
def isScr : PyData → Bool
  | .list ds => sc1 ds
  | .tuple ds => sc1 ds
  | _ => false
theorem isScr_sq {d : PyData} {ds : List PyData} (s : Sq2 d ds) : isScr d = sc1 ds := by rcases s with rfl | rfl <;> rfl
def scs1 (ds : List PyData) : Bool := decide (1 ≤ ds.length ∧ ds.length ≤ 4) && ds.all isScr
/-- scripts -/
def areScr : PyData → Bool
  | .list ds => scs1 ds
  | .tuple ds => scs1 ds
  | _ => false
theorem areScr_sq {d : PyData} {ds : List PyData} (s : Sq2 d ds) : areScr d = scs1 ds := by rcases s with rfl | rfl <;> rfl
theorem isLT_sq {d : PyData} (h : isLT d = true) : ∃ ds, Sq2 d ds := by
  cases d <;> first | exact ⟨_, .inl rfl⟩ | exact ⟨_, .inr rfl⟩ | cases h
theorem sq_isLT {d : PyData} {ds : List PyData} (s : Sq2 d ds) : isLT d = true := by rcases s with rfl | rfl <;> rfl
theorem isScr_no {d : PyData} (h : isLT d = false) : isScr d = false := by
  cases d <;> first | rfl | cases h
theorem areScr_no {d : PyData} (h : isLT d = false) : areScr d = false := by
  cases d <;> first | rfl | cases h
theorem ax_sq {m : Addr} {H : Hp} {x : V} {d : PyData} {ds : List PyData} (h : Ax m H x d) (s : Sq2 d ds) : ∃ a us, x = .ref a ∧ a ≠ m ∧ Sq H a us ∧ AxAll m H us ds := by
  rcases s with rfl | rfl
  · cases h with
    | lst n e q => exact ⟨_, _, rfl, n, .inl e, q⟩
  · cases h with
    | tup n e q => exact ⟨_, _, rfl, n, .inr e, q⟩
def lenD : PyData → Nat
  | .list ds => ds.length
  | .tuple ds => ds.length
  | _ => 0
theorem lenD_sq {d : PyData} {ds : List PyData} (s : Sq2 d ds) : lenD d = ds.length := by rcases s with rfl | rfl <;> rfl
section
variable {P : Program} {w : World} {K : PySem.W.Frag} {mg : Str → Option Value} {base : Heap}
variable {CE CD CP fI : Addr}
def spInit (K : PySem.W.Frag) : Sp := fun vs H Q _ => ∃ (a C : Addr) (v : V), vs = [.ref a, v] ∧ OexE K C ∧ PySem.W.findIn K (.ref C) fld = some none ∧ H a = some (exo a C none) ∧
  ∀ dx, H dx = none → dx ≠ a → Q .non (upd (upd H dx (exd dx [(fld, v)])) a (exo a C (some dx)))
theorem scInit : FnScope ["self", "sqlite_errorname"] ["self", "sqlite_errorname"] (defScope sInit) := ⟨rfl, rfl, rfl, by decide +kernel, rfl, by decide +kernel, by decide +kernel⟩
abbrev FI (K : PySem.W.Frag) (fI : Addr) (fd : FuncData) : Prop := FunD K "__init__" "Error.__init__" (defArgs sInit) (defBody sInit) (defScope sInit) [.non] [] fI fd
theorem ok_init {fd : FuncData} (F : FI K fI fd) : FnOk P w K mg base CX0 1 fI fd ["self", "sqlite_errorname"] (spInit K) := by
  refine F.ok scInit (fun vs H Q E h => ?_) (fun cdv A outer s H vs Q E hr h => ?_)
  · obtain ⟨a, C, v, rfl, _⟩ := h
    rfl
  · obtain ⟨a, C, v, rfl, T, hno, ha, k⟩ := h
    refine ⟨_, pss_one (ps_ostE (pv 0) (pv 1)), ?_⟩
    exact ⟨_, rfl, _, rfl, a, C, rfl, T, hno, ha, k⟩
theorem bI1 {fd : FuncData} (F : FI K fI fd) : Binds K fd ["self", "sqlite_errorname"] [.none] := by
  obtain ⟨ds, h1, h2⟩ := F.binds1 1 0 (by decide) rfl (ps := ["self", "sqlite_errorname"]) fun T kV doc pm an cdv ct us its h1 h2 => match us, its, h1, h2 with
    | [_], [_], _, _ => ⟨_, rfl, rfl⟩
  cases h1 with
  | cons r rr =>
    cases rr
    cases r
    exact h2
theorem j_of {X : Cx} {fd : FuncData} (F : FI X.K fI fd) (T : Cls3 X.K X.mg CE CD CP fI) : IniE X CX0 CP fI 1 fd ["self", "sqlite_errorname"] (spInit X.K) [.none] [.non] :=
  ⟨T.oe, T.ini, T.tI, ok_init F, bI1 F, .cons rfl .nil⟩
theorem rs_done {H : Hp} {v : V} {Q : XK} (T : Cls3 K mg CE CD CP fI) (k : ∀ (d : Addr) (H' : Hp), H d = none → Same H H' → H' d = some (.xd [(fld, v)]) → Q (.ref CP) (some d) H') :
    ∀ a, H a = none → spInit K [.ref a, v] (upd H a (exo a CP none)) (fun u H2 => u = .non ∧ ∃ (d : Addr) (fs : List (Str × V)), H2 a = some (exo a CP (some d)) ∧ H2 d = some (exd d fs) ∧ H d = none ∧ Q (.ref CP) (some d) (upd (del H2 a) d (.xd fs))) (fun _ _ _ => False) := fun a ha => by
  refine ⟨a, CP, v, rfl, T.oe, T.no, upd_same, fun dx hdx ne => ⟨rfl, dx, [(fld, v)], upd_same, by rw [upd_ne ne, upd_same], ?_, ?_⟩⟩
  · rw [upd_ne ne] at hdx
    exact hdx
  · have hd : H dx = none := by
      rw [upd_ne ne] at hdx
      exact hdx
    refine k dx _ hd (fun b o e => ?_) upd_same
    have nb := ne_of_none e ha
    have nd := ne_of_none e hd
    rw [upd_ne nd, del_ne nb, upd_ne nb, upd_ne nd, upd_ne nb]
    exact e

def spIsLX : Sp := fun vs H Q _ => ∃ (m : Addr) (x : V) (d : PyData), vs = [x] ∧ Ax m H x d ∧ ∀ H', Same H H' → Q (.bl (isLT d)) H'
theorem pr_isLX (D : Df K mg "is_list" sIsList ["thing"]) (T : Ty mg) : Pr P w K mg base 1 "is_list" ["thing"] spIsLX := by
  refine D.pr scIsList (fun vs H Q E h => ?_) (fun f cdv A outer s H vs Q E hr h => ?_)
  · obtain ⟨m, x, d, rfl, _⟩ := h
    rfl
  · obtain ⟨m, x, d, rfl, ha, k⟩ := h
    have nd := scIsList.nd
    refine ⟨_, (pss_one (ps_ret (pe_callB call_isiT (by rfl) T.isinstance (by decide +kernel) (pa_cons (pv 0) (pa_cons (pe_tup (pa_cons (pe_bltn (v := .ty "list") (by rfl) T.list (by decide +kernel) rfl) (pa_cons (pe_bltn (v := .ty "tuple") (by rfl) T.tuple (by decide +kernel) rfl) pa_nil))) pa_nil))))), ?_⟩
    refine ⟨_, rfl, (by show 2 ≤ sizeLine; decide), fun tp htp => ?_⟩
    have sm := same_new (o := .tup [.ty "list", .ty "tuple"]) htp
    exact ax_isiT (ha.mono (Same.but (m := m) sm)) upd_same (k _ sm)
def spIsScX : Sp := fun vs H Q _ => ∃ (m : Addr) (x : V) (d : PyData), vs = [x] ∧ Ax m H x d ∧ (∀ ds, Sq2 d ds → ds.length ≤ 1000) ∧ ∀ H', Same H H' → Q (.bl (isScr d)) H'
theorem pr_isScX (D : Df K mg "is_script" sIsScript ["thing"]) (T : Ty mg) (T3 : mg "str" = none) (G : Tk K mg) (PL : Pr P w K mg base 1 "is_list" ["thing"] spIsLX) : Pr P w K mg base 2 "is_script" ["thing"] spIsScX := by
  refine D.pr scIsScript (fun vs H Q E h => ?_) (fun f cdv A outer s H vs Q E hr h => ?_)
  · obtain ⟨m, x, d, rfl, _⟩ := h
    rfl
  · obtain ⟨m, x, d, rfl, ha, hsz, k⟩ := h
    have nd := scIsScript.nd
    obtain ⟨aOp, gOp, qOp⟩ := G.op
    obtain ⟨aEn, gEn, qEn⟩ := G.en
    obtain ⟨aOt, gOt, qOt⟩ := G.ot
    refine ⟨_, (pss_cons (ps_if (PW.pt (pw_or (pt_not (pt_val (pe_callP PL hr (by rfl) (pa_cons (pv 0) pa_nil)))) (pw_or1 (pt_cmpR op_gt (pe_callB call_len (by rfl) T.len PySem.boot_len (pa_cons (pv 0) pa_nil)) pe_int (nomark _)))))
        (pss_one (ps_ret pe_bl))
        pss_nil)
      (pss_cons (ps_asg2 pe_bl (pg_name (i := 1) nd rfl (Or.inl rfl)) (pg_name (i := 2) nd rfl (Or.inl rfl)))
      (pss_cons (ps_for PassesOwn.never rfl (pi_sq (pv 0)) (pg_name (i := 3) nd rfl (Or.inl rfl))
        (pss_cons (ps_if (PW.pt (pw_or (pt_not (pt_val (pe_callB call_isi (by rfl) T.isinstance (by decide +kernel) (pa_cons (pv 3) (pa_cons (pe_bltn (v := .ty "str") (by rfl) T3 (by decide +kernel) rfl) pa_nil))))) (pw_or1 (pt_cmpR op_notIn_seq (pv 3) (pe_op op_catA (pe_op op_catA (pe_gR rfl gOp) (pe_gR rfl gEn)) (pe_gR rfl gOt)) (by rfl)))))
          (pss_one (ps_ret pe_bl))
          pss_nil)
        (pss_cons (ps_if (PW.pt (pw_or (PW.pt (pw_and (pt_cmpR op_in_seq (pv 3) (pe_gR rfl gOp) (by rfl)) (pw_and1 (pt_val (pv 1))))) (pw_or1 (PW.pt (pw_and (pt_cmpR op_in_seq (pv 3) (pe_gR rfl gEn) (by rfl)) (pw_and1 (pt_not (pt_val (pv 1)))))))))
          (pss_one (ps_ret pe_bl))
          pss_nil)
        (pss_cons (ps_if (PW.pt (pw_or (PW.pt (pw_and (pt_cmpR op_eq (pv 3) pe_str (nomark _)) (pw_and1 (pt_val (pv 2))))) (pw_or1 (PW.pt (pw_and (pt_cmpR op_eq (pv 3) pe_str (nomark _)) (pw_and1 (pt_not (pt_val (pv 2)))))))))
          (pss_one (ps_ret pe_bl))
          pss_nil)
        (pss_cons (ps_asg (pe_or (pe_cmpR op_in_seq (pv 3) (pe_gR rfl gOp) (by rfl)) (pe_one (pe_and (pv 1) (pe_one (pe_cmpR op_notIn_seq (pv 3) (pe_gR rfl gEn) (by rfl)))))) (pg_name (i := 1) nd rfl (Or.inl rfl)))
        (pss_one (ps_asg (pe_or (pe_cmpR op_eq (pv 3) pe_str (nomark _)) (pe_one (pe_and (pv 2) (pe_one (pe_cmpR op_ne (pv 3) pe_str (nomark _)))))) (pg_name (i := 2) nd rfl (Or.inl rfl)))))))))
      (pss_one (ps_ret pe_bl))))), ?_⟩
    refine ⟨_, rfl, m, x, d, rfl, ha, fun H1 s1 => ?_⟩
    refine ⟨_, rfl, ?_⟩
    cases hlt : isLT d
    · refine iteT (iteT ?_)
      rw [← isScr_no hlt]
      exact k _ s1
    obtain ⟨ds, sq⟩ := isLT_sq hlt
    obtain ⟨p, us, rfl, np, hsq, hus⟩ := ax_sq ha sq
    have hlen := hus.length
    have hz := hsz ds sq
    refine iteF ?_
    refine ⟨_, rfl, _, _, rfl, (hsq.same s1).len, _, _, rfl, rfl, _, rfl, ?_⟩
    by_cases h8 : (8 : Int) < (us.length : Int)
    · rw [decide_eq_true h8]
      refine iteT ?_
      have : isScr d = false := by
        rw [isScr_sq sq]
        unfold sc1
        rw [decide_eq_false (show ¬ ds.length ≤ 8 by omega)]
        rfl
      rw [← this]
      exact k _ s1
    rw [decide_eq_false h8]
    refine iteF ?_
    have hsc : isScr d = scn false false ds := by
      rw [isScr_sq sq]
      unfold sc1
      rw [decide_eq_true (show ds.length ≤ 8 by omega)]
      rfl
    refine isq (a := p) (us := us) (fun Q q => ⟨_, rfl, q⟩) (hsq.same s1) (fun J G W hG => ?_)
    refine for_it W (fun i σ H2 => Same H1 H2 ∧ ∃ o r o3, σ = [some (.ref p), some (.bl o), some (.bl r), o3] ∧ scn o r (ds.drop i) = scn false false ds) ⟨fun _ _ e => e, _, _, _, rfl, rfl⟩ (fun i σ H2 _ q => hG _ (fun _ e => q.1 _ _ e)) ?_ ?_
    · rintro i x σ H2' H2 hi ⟨s2, fo, fr, o3, rfl, hs⟩ ⟨rfl, ex⟩
      obtain ⟨dx, e1, ax⟩ := hus.get ex
      obtain ⟨hil, eil⟩ := List.getElem?_eq_some_iff.mp e1
      rw [List.drop_eq_getElem_cons hil, eil] at hs
      have s12 := Same.tr s1 s2
      have ret : scn fo fr (dx :: ds.drop (i + 1)) = false → ∀ H', Same H2 H' → Q (.bl false) H' := fun e H' s' => by
        have : isScr d = false := by rw [hsc, ← hs, e]
        rw [← this]
        exact k _ (Same.tr s12 s')
      refine ⟨_, rfl, _, _, _, _, isStr dx, rfl, .ty "str", (ax.mono (Same.but (m := m) s12)).ty, kit_ty (k_str dx), ?_⟩
      refine ⟨_, rfl, ?_⟩
      cases hst : isStr dx
      · refine iteT (iteT ?_)
        refine ret ?_ _ (fun _ _ e => e)
        cases dx <;> first | rfl | cases hst
      obtain ⟨z, rfl⟩ : ∃ z, dx = .str z := by
        cases dx <;> first | exact ⟨_, rfl⟩ | cases hst
      cases ax
      refine iteF ?_
      refine ⟨_, rfl, ?_⟩
      refine ⟨aOp, aEn, _, _, rfl, rfl, qOp _, qEn _, (by show 5 ≤ sizeLine; decide), (fun e => nomatch e), (fun _ e => nomatch e), fun _ _ p1 hp1 => ?_⟩
      have t1 := same_new (o := .tup ([.str (Str.ofString "begin"), .str (Str.ofString "immediate"), .str (Str.ofString "exclusive")] ++ [.str (Str.ofString "commit"), .str (Str.ofString "rollback")])) hp1
      refine ⟨p1, aOt, _, _, rfl, rfl, SqT.of upd_same, qOt _, (by show 9 ≤ sizeLine; decide), (fun e => nomatch e), (fun _ e => nomatch e), fun _ _ p2 hp2 => ?_⟩
      have t2 := same_new (o := .tup (([.str (Str.ofString "begin"), .str (Str.ofString "immediate"), .str (Str.ofString "exclusive")] ++ [.str (Str.ofString "commit"), .str (Str.ofString "rollback")]) ++ [.str (Str.ofString "read"), .str (Str.ofString "start"), .str (Str.ofString "stop"), .str (Str.ofString "write")])) hp2
      refine ⟨_, _, rfl, .inr (SqT.of upd_same), rfl, rfl, _, rfl, ?_⟩
      cases hw : wOf (.str z) with
      | none =>
        rw [wOf_none hw]
        refine iteT ?_
        refine ret ?_ _ (Same.tr t1 t2)
        show (match wOf (.str z) with | some v => okW v fo fr && scn (opB v fo) (rdB v fr) (ds.drop (i + 1)) | none => false) = false
        rw [hw]
      | some v =>
      have hz := wOf_some hw
      cases hz
      have hs' : scn fo fr (.str (wS v) :: ds.drop (i + 1)) = (okW v fo fr && scn (opB v fo) (rdB v fr) (ds.drop (i + 1))) := by
        show (match wOf (.str (wS v)) with | some v => okW v fo fr && scn (opB v fo) (rdB v fr) (ds.drop (i + 1)) | none => false) = _
        rw [hw]
      rw [in_all v]
      refine iteF ?_
      have s4 := Same.tr s2 (Same.tr t1 t2)
      have eSta : decide (V.str (wS v) = V.str (Str.ofString "start")) = decide (v = .sta) := eqW v .sta
      have eSto : decide (V.str (wS v) = V.str (Str.ofString "stop")) = decide (v = .sto) := eqW v .sto
      dsimp only [tNext]
      refine seq_if_tv (isOp v && fo || (isEn v && !fo)) (fun K' kk => ?_) (fun hb => ?_) (fun hb => ?_)
      · refine ⟨_, rfl, _, _, rfl, .inr (qOp _), rfl, rfl, _, rfl, ?_⟩
        rw [in_op v]
        cases hop : isOp v
        · refine iteF (iteF ⟨_, rfl, _, _, rfl, .inr (qEn _), rfl, rfl, _, rfl, ?_⟩)
          rw [in_en v]
          rw [hop] at kk
          cases hen : isEn v
          · rw [hen] at kk
            exact iteF kk
          · rw [hen] at kk
            exact iteT ⟨_, rfl, _, rfl, kk⟩
        · rw [hop] at kk
          cases fo
          · refine iteT ⟨_, rfl, _, rfl, iteF ⟨_, rfl, _, _, rfl, .inr (qEn _), rfl, rfl, _, rfl, ?_⟩⟩
            have hen : isEn v = false := by
              cases v <;> first | rfl | cases hop
            rw [in_en v, hen]
            rw [hen] at kk
            exact iteF kk
          · exact iteT ⟨_, rfl, _, rfl, iteT kk⟩
      · refine ret ?_ _ (Same.tr t1 t2)
        rw [hs']
        unfold okW
        rw [hb]
        rfl
      dsimp only [tNext]
      refine seq_if_tv (decide (v = .sta) && fr || (decide (v = .sto) && !fr)) (fun K' kk => ?_) (fun hb2 => ?_) (fun hb2 => ?_)
      · refine ⟨_, rfl, rfl, _, rfl, ?_⟩
        rw [eSta]
        by_cases hst : v = .sta
        · rw [decide_eq_true hst] at kk ⊢
          rw [decide_eq_false (show ¬ v = .sto by rw [hst]; decide)] at kk
          cases fr
          · refine iteT ⟨_, rfl, _, rfl, iteF ⟨_, rfl, rfl, _, rfl, ?_⟩⟩
            rw [eSto, decide_eq_false (show ¬ v = .sto by rw [hst]; decide)]
            exact iteF kk
          · exact iteT ⟨_, rfl, _, rfl, iteT kk⟩
        · rw [decide_eq_false hst] at kk ⊢
          refine iteF (iteF ⟨_, rfl, rfl, _, rfl, ?_⟩)
          rw [eSto]
          by_cases hso : v = .sto
          · rw [decide_eq_true hso] at kk ⊢
            exact iteT ⟨_, rfl, _, rfl, kk⟩
          · rw [decide_eq_false hso] at kk ⊢
            exact iteF kk
      · refine ret ?_ _ (Same.tr t1 t2)
        rw [hs']
        unfold okW
        rw [hb2, Bool.not_true, Bool.and_false]
        rfl
      have hok : okW v fo fr = true := by
        unfold okW
        rw [hb, hb2]
        rfl
      dsimp only [tNext]
      refine seq_asg_tv (.bl (opB v fo)) (fun Q' kk => ?_) ?_
      · refine ⟨_, rfl, _, _, rfl, .inr (qOp _), rfl, rfl, _, rfl, ?_⟩
        rw [in_op v]
        unfold opB at kk
        cases hop : isOp v
        · rw [hop] at kk
          refine iteF ⟨_, rfl, _, rfl, ?_⟩
          cases fo
          · exact iteF kk
          · refine iteT ⟨_, rfl, _, _, rfl, .inr (qEn _), rfl, rfl, ?_⟩
            rw [in_en v]
            exact kk
        · rw [hop] at kk
          exact iteT kk
      dsimp only [gName]
      refine asg_tv (.bl (rdB v fr)) (fun Q' kk => ?_) ?_
      · refine ⟨_, rfl, rfl, _, rfl, ?_⟩
        rw [eSta]
        unfold rdB at kk
        cases hop : decide (v = .sta)
        · rw [hop] at kk
          refine iteF ⟨_, rfl, _, rfl, ?_⟩
          cases fr
          · exact iteF kk
          · refine iteT ⟨_, rfl, rfl, ?_⟩
            rw [eSto]
            exact kk
        · rw [hop] at kk
          exact iteT kk
      refine ⟨s4, _, _, _, rfl, ?_⟩
      rw [← hs, hs', hok]
      rfl
    · rintro σ H2 ⟨s2, fo, fr, o3, rfl, hs⟩
      rw [hlen, List.drop_length] at hs
      have : isScr d = true := by rw [hsc, ← hs]; rfl
      rw [← this]
      exact k _ (Same.tr s1 s2)
/-- scripts, or an error -/
def spCkX (CP : Addr) : Sp := fun vs H Q E => ∃ (m : Addr) (x : V) (o : HO) (d : PyData), vs = [x] ∧ H m = some o ∧ Ax m H x d ∧ (∀ ds, Sq2 d ds → ds.length ≤ 1000 ∧ ∀ e ∈ ds, ∀ es, Sq2 e es → es.length ≤ 1000) ∧
  (areScr d = true → ∀ (q : Addr) (us : List V) (H' : Hp), Same H H' → q ≠ m → H' q = some (.tup us) → us.length = lenD d → Q (.ref q) H') ∧
  (areScr d = false → ∀ (dd : Addr) (H' : Hp), Same H H' → H' dd = some (.xd [(fld, .non)]) → E (.ref CP) (some dd) H')
theorem pr_ckX {fdI : FuncData} (D : Df K mg "checked" sChecked ["scripts"]) (T : Ty mg) (FI' : FI K fI fdI) (T3 : Cls3 K mg CE CD CP fI) (PL : Pr P w K mg base 1 "is_list" ["thing"] spIsLX) (PI : Pr P w K mg base 2 "is_script" ["thing"] spIsScX) : PrX P w K mg base 3 "checked" ["scripts"] (spCkX CP) := by
  obtain ⟨f, fd, F, b, g⟩ := D
  refine ⟨f, fd, F.okX scChecked (fun vs H Q E h => ?_) (fun cdv Ar outer s H vs Q E hr h => ?_), g, F.kp, b⟩
  · obtain ⟨m, x, o, d, rfl, _⟩ := h
    rfl
  · obtain ⟨m, x, o, d, rfl, hm, ha, hsz, k, kE⟩ := h
    have nd := scChecked.nd
    have hr1 := hr.mono (show 1 ≤ 2 by decide)
    have J := j_of (X := cxOf (L2.CX P w) P w K mg base nChecked "checked" (defScope sChecked) f cdv Ar outer s H E) FI' T3
    refine ⟨_, (pss_cons (ps_if (PW.pt (pw_or (pt_not (pt_val (pe_callP PL hr1 (by rfl) (pa_cons (pv 0) pa_nil)))) (pw_or (pt_not (pt_chain op_le op_le pe_int (pe_callB call_len (by rfl) T.len PySem.boot_len (pa_cons (pv 0) pa_nil)) pe_int)) (pw_or1 (pt_not (pt_val (pe_callB (cr_all rfl) (by rfl) T.all (by decide +kernel) (pa_cons (pe_lc (own := [("script", 1)]) (g := gName 1) (tt := tYes) (by rfl) nd (pi_sq (pv 0))
  (blkOk_by (own := [("script", 1)]) (N := nChecked) (sc := defScope sChecked) (by decide +kernel))
  (fun _ _ _ _ _ => pg_name (i := 1) nd rfl (Or.inl rfl) (Or.inr rfl)) (fun _ _ _ _ _ => pts_nil)
  (fun _ _ _ _ _ => (pe_callP PI hr (by rfl) (pa_cons (pv 1) pa_nil)))) pa_nil))))))))
        (pss_one (ps_raise rfl (takes_of rfl rfl rfl rfl) (pmk_E0 J hr pass0 (by rfl) T3.gP)))
        pss_nil)
      (pss_one (ps_ret (pe_callTy call_tuple_of (by rfl) T.tuple (by decide +kernel) (pa_cons (pe_lc (own := [("script", 1)]) (g := gName 1) (tt := tYes) (te := tCB (rTupOf K) (tCons (tVar 1) tNil)) (by rfl) nd (pi_sq (pv 0))
  (blkOk_by (own := [("script", 1)]) (N := nChecked) (sc := defScope sChecked) (by decide +kernel))
  (fun _ _ _ _ _ => pg_name (i := 1) nd rfl (Or.inl rfl) (Or.inr rfl)) (fun _ _ _ _ _ => pts_nil)
  (fun _ _ _ _ _ => (pe_callTy call_tuple_of (by rfl) T.tuple (by decide +kernel) (pa_cons (pv 1) pa_nil)))) pa_nil))))), ?_⟩
    have bad : ∀ {σ : L2.St} {H6 : Hp}, areScr d = false → Same H H6 → tMkO CP (spInit K) [.non] tNil σ H6 (fun cls d H' => E cls d H') := fun {σ H6} e s6 =>
      ⟨(by show 0 ≤ 1000; decide), rs_done T3 fun dd H' _ s' q => kE e dd H' (Same.tr s6 s') q⟩
    refine ⟨_, rfl, m, x, d, rfl, ha, fun H1 s1 => ?_⟩
    refine ⟨_, rfl, ?_⟩
    cases hlt : isLT d
    · refine iteT (iteT ?_)
      exact bad (areScr_no hlt) s1
    obtain ⟨ds, sq⟩ := isLT_sq hlt
    obtain ⟨p, us, rfl, np, hsq, hus⟩ := ax_sq ha sq
    have hlen := hus.length
    obtain ⟨hz, hz2⟩ := hsz ds sq
    have badl : ¬ (1 ≤ ds.length ∧ ds.length ≤ 4) → areScr d = false := fun h => by
      rw [areScr_sq sq]
      unfold scs1
      rw [decide_eq_false h]
      rfl
    refine iteF ?_
    refine ⟨_, rfl, _, _, rfl, (hsq.same s1).len, _, _, rfl, rfl, _, rfl, ?_⟩
    by_cases h1 : (1 : Int) ≤ (us.length : Int)
    case neg =>
      rw [decide_eq_false h1]
      refine iteF ⟨_, rfl, ?_⟩
      refine iteT (iteT ?_)
      exact bad (badl (by omega)) s1
    rw [decide_eq_true h1]
    refine iteT ⟨_, _, rfl, rfl, _, rfl, ?_⟩
    by_cases h4 : (us.length : Int) ≤ 4
    case neg =>
      rw [decide_eq_false h4]
      refine iteT (iteT ?_)
      exact bad (badl (by omega)) s1
    rw [decide_eq_true h4]
    refine iteF ?_
    have hall : areScr d = ds.all isScr := by
      rw [areScr_sq sq]
      unfold scs1
      rw [decide_eq_true (show 1 ≤ ds.length ∧ ds.length ≤ 4 by omega)]
      rfl
    refine isq (a := p) (us := us) (fun Q q => ⟨_, rfl, q⟩) (hsq.same s1) (fun J G W hG => fun Dl hD => ?_)
    refine lc_it W (fun i H2 => Same H1 H2 ∧ H2 Dl = some (.lst (((ds.take i).map isScr).map V.bl))) ?_ ?_ ?_ ?_
    · exact ⟨same_new hD, upd_same⟩
    · exact fun i H2 _ q => hG _ (fun _ e => q.1 _ _ e)
    · rintro i y H2 H3 hi ⟨s2, hl2⟩ ⟨rfl, ey⟩
      obtain ⟨dy, e1, ay⟩ := hus.get ey
      refine ⟨rfl, ?_⟩
      refine ⟨_, rfl, m, y, dy, rfl, ay.mono (Same.but (m := m) (Same.tr s1 s2)), hz2 dy (List.mem_of_getElem? e1), fun H4 s4 => ?_⟩
      refine ⟨_, s4 _ _ hl2, ?_, ?_, ?_⟩
      · rw [List.length_map, List.length_map, List.length_take]
        exact small6 (by omega)
      · intro b u e
        rw [upd_ne (ne_of_none e hD)]
        exact s4 _ _ (s2 _ _ e)
      · rw [upd_same, take_succ' e1, List.map_append, List.map_append]
        rfl
    · rintro H2 ⟨s2, hl2⟩
      rw [hlen, List.take_length] at hl2
      refine ⟨_, _, rfl, SqL.of hl2, ?_⟩
      refine ⟨_, rfl, ?_⟩
      have ea : ((ds.map isScr).all id) = areScr d := by
        rw [hall, List.all_map]
        rfl
      rw [ea]
      have s02 := Same.tr s1 s2
      cases hsc : areScr d
      · refine iteT ?_
        exact bad hsc s02
      refine iteF ?_
      refine isq (a := p) (us := us) (fun Q q => ⟨_, rfl, q⟩) (hsq.same s02) (fun J2 G2 W2 hG2 => fun D2 hD2 => ?_)
      refine lc_it W2 (fun i H3 => Same H2 H3 ∧ ∃ vs, H3 D2 = some (.lst vs) ∧ vs.length = i) ?_ ?_ ?_ ?_
      · exact ⟨same_new hD2, [], upd_same, rfl⟩
      · exact fun i H3 _ q => hG2 _ (fun _ e => q.1 _ _ e)
      · rintro i y H3' H3 hi ⟨s3, vs, hl3, lv⟩ ⟨rfl, ey⟩
        obtain ⟨dy, e1, ay⟩ := hus.get ey
        have hy : isScr dy = true := by
          rw [hall] at hsc
          exact List.all_eq_true.mp hsc dy (List.mem_of_getElem? e1)
        obtain ⟨es, sqy⟩ := isLT_sq (d := dy) (by
          cases hq : isLT dy
          · rw [isScr_no hq] at hy
            cases hy
          · rfl)
        obtain ⟨py, uy, rfl, npy, hsqy, _⟩ := ax_sq (ay.mono (Same.but (m := m) (Same.tr s02 s3))) sqy
        have fin : ∀ (z : V) (H5 : Hp), Same H3 H5 → ∃ acc, H5 D2 = some (.lst acc) ∧ acc.length < sizeLine ∧ Same H2 (upd H5 D2 (.lst (acc ++ [z]))) ∧ ∃ vs, upd H5 D2 (.lst (acc ++ [z])) D2 = some (.lst vs) ∧ vs.length = i + 1 := fun z H5 s5 => by
          refine ⟨vs, s5 _ _ hl3, small6 (by omega), fun b u e => ?_, vs ++ [z], upd_same, by rw [List.length_append, lv]; rfl⟩
          rw [upd_ne (ne_of_none e hD2)]
          exact s5 _ _ (s3 _ _ e)
        refine ⟨rfl, ?_⟩
        refine ⟨_, rfl, py, uy, rfl, ?_⟩
        rcases hsqy with hq | hq
        · exact .inl ⟨SqL.of hq, fun l hl => fin _ _ (same_new hl)⟩
        · exact .inr ⟨SqT.of hq, fin _ _ (fun _ _ e => e)⟩
      · rintro H3 ⟨s3, vs, hl3, lv⟩
        refine ⟨_, _, rfl, .inl ⟨SqL.of hl3, fun q hq => ?_⟩⟩
        have s03 := Same.tr s02 s3
        refine k hsc q vs _ (Same.tr s03 (same_new hq)) (fun z => ?_) upd_same (by rw [lv, hlen, lenD_sq sq])
        rw [z, s03 _ _ hm] at hq
        cases hq
/-- the state at the beginning, or an error -/
def spFsX (CP : Addr) : Sp := fun vs H Q E => ∃ (m : Addr) (x : V) (o : HO) (d : PyData), vs = [x] ∧ H m = some o ∧ Ax m H x d ∧ (∀ ds, Sq2 d ds → ds.length ≤ 1000 ∧ ∀ e ∈ ds, ∀ es, Sq2 e es → es.length ≤ 1000) ∧
  (areScr d = true → ∀ (q : Addr) (H' : Hp), Same H H' → At m H' (.ref q) (stD (List.replicate (lenD d) row0)) → Q (.ref q) H') ∧
  (areScr d = false → ∀ (dd : Addr) (H' : Hp), Same H H' → H' dd = some (.xd [(fld, .non)]) → E (.ref CP) (some dd) H')
theorem lenD_le {d : PyData} (h : areScr d = true) : lenD d ≤ 4 := by
  have : ∀ ds, scs1 ds = true → ds.length ≤ 4 := fun ds h => by
    unfold scs1 at h
    rw [Bool.and_eq_true_iff] at h
    exact (of_decide_eq_true h.1).2
  cases d <;> first | exact this _ h | cases h
theorem pr_fsX (D : Df K mg "first_state" sFirst ["scripts"]) (T : Ty mg) (G : Tk K mg) (PC : PrX P w K mg base 3 "checked" ["scripts"] (spCkX CP)) : PrX P w K mg base 4 "first_state" ["scripts"] (spFsX CP) := by
  obtain ⟨f, fd, F, b, g⟩ := D
  refine ⟨f, fd, F.okX scFirst (fun vs H Q E h => ?_) (fun cdv Ar outer s H vs Q E hr h => ?_), g, F.kp, b⟩
  · obtain ⟨m, x, o, d, rfl, _⟩ := h
    rfl
  · obtain ⟨m, x, o, d, rfl, hm, ha, hsz, k, kE⟩ := h
    have nd := scFirst.nd
    obtain ⟨_, g0⟩ := G.l0
    refine ⟨_, (pss_one (ps_ret (pe_callTy call_tuple_of (by rfl) T.tuple (by decide +kernel) (pa_cons (pe_lc (own := [("script", 1)]) (g := gName 1) (tt := tYes) (by rfl) nd (pi_tup (pe_callPX PC hr (by rfl) (takes_of rfl rfl rfl rfl) (pa_cons (pv 0) pa_nil)))
  (blkOk_by (own := [("script", 1)]) (N := nFirst) (sc := defScope sFirst) (by decide +kernel))
  (fun _ _ _ _ _ => pg_name (i := 1) nd rfl (Or.inl rfl) (Or.inr rfl)) (fun _ _ _ _ _ => pts_nil)
  (fun _ _ _ _ _ => (pe_tup (pa_cons pe_int (pa_cons pe_bl (pa_cons pe_bl (pa_cons (pe_gI rfl g0) pa_nil))))))) pa_nil)))), ?_⟩
    refine ⟨_, rfl, m, x, o, d, rfl, hm, ha, hsz, fun hsc q ua H0 s0 nq hq lua => ?_, fun hsc dd H' s' e => kE hsc dd H' s' e⟩
    have hm0 := s0 _ _ hm
    have l4 := lenD_le hsc
    refine ⟨_, rfl, ⟨_, SqT.of hq⟩, fun Dl hD => ?_⟩
    refine lc_it (walk_tup (xs := ua)) (fun i H2 => Same H0 H2 ∧ ∃ vs, Bld m Dl H2 vs ((List.replicate i row0).map rowD)) ?_ ?_ ?_ ?_
    · exact ⟨same_new hD, [], Bld.start hm0 hD⟩
    · exact fun i H2 _ q => SqT.of (q.1 _ _ hq)
    · rintro i y H2 H3 hi ⟨sm, vs, bl⟩ ⟨rfl, er⟩
      refine ⟨rfl, ?_⟩
      refine ⟨(by show 4 ≤ sizeLine; decide), fun R hR => ?_⟩
      have bl3 := bl.same (Same.new (o := .tup (rowV row0)) hR)
      have nR : R ≠ m := fun z => by
        rw [z, sm _ _ hm0] at hR
        cases hR
      have nD : R ≠ Dl := fun z => by
        rw [z, bl.2.1] at hR
        cases hR
      refine ⟨vs, bl3.2.1, ?_, ?_, vs ++ [.ref R], ?_⟩
      · rw [bl.len, List.length_map, List.length_replicate]
        exact small6 (by omega)
      · intro b u e
        rw [upd_ne (ne_of_none e hD)]
        exact same_new hR _ _ (sm _ _ e)
      · rw [List.replicate_succ', List.map_append]
        exact bl3.push (row_at nR upd_same) (row_at nD upd_same)
    · rintro H2 ⟨s2, vs, bl⟩
      rw [lua] at bl
      refine ⟨_, _, rfl, .inl ⟨SqL.of bl.2.1, fun q hq => ?_⟩⟩
      exact k hsc q _ (Same.tr s0 (Same.tr s2 (same_new hq))) (bl.tup (s2 _ _ hm0) hq)
def spBgX : Sp := fun vs H Q _ => ∃ (m : Addr) (x : V) (o : HO) (d : PyData), vs = [x] ∧ H m = some o ∧ Ax m H x d ∧ areScr d = true ∧ ∀ (q : Addr) (H' : Hp), Same H H' → At m H' (.ref q) (stD (List.replicate (lenD d) row0)) → Q (.ref q) H'
theorem pr_bgX (D : Df K mg "_law_begun" sBegun ["_law_scripts_here"]) (T : Ty mg) : Pr P w K mg base 1 "_law_begun" ["_law_scripts_here"] spBgX := by
  refine D.pr scBegun (fun vs H Q E h => ?_) (fun f cdv A outer s H vs Q E hr h => ?_)
  · obtain ⟨m, x, o, d, rfl, _⟩ := h
    rfl
  · obtain ⟨m, x, o, d, rfl, hm, ha, hsc, k⟩ := h
    have nd := scBegun.nd
    refine ⟨_, (pss_one (ps_ret (pe_callTy call_tuple_of (by rfl) T.tuple (by decide +kernel) (pa_cons (pe_lc (own := [("_law_one_here", 1)]) (g := gName 1) (tt := tYes) (by rfl) nd (pi_sq (pv 0))
  (blkOk_by (own := [("_law_one_here", 1)]) (N := nBegun) (sc := defScope sBegun) (by decide +kernel))
  (fun _ _ _ _ _ => pg_name (i := 1) nd rfl (Or.inl rfl) (Or.inr rfl)) (fun _ _ _ _ _ => pts_nil)
  (fun _ _ _ _ _ => (pe_tup (pa_cons pe_int (pa_cons pe_bl (pa_cons pe_bl (pa_cons pe_int pa_nil))))))) pa_nil)))), ?_⟩
    have l4 := lenD_le hsc
    obtain ⟨ds, sq⟩ := isLT_sq (d := d) (by
      cases hq : isLT d
      · rw [areScr_no hq] at hsc
        cases hsc
      · rfl)
    obtain ⟨p, us, rfl, np, hsq, hus⟩ := ax_sq ha sq
    have lus : us.length = lenD d := by rw [hus.length, lenD_sq sq]
    refine isq (a := p) (us := us) (fun Q q => ⟨_, rfl, q⟩) hsq (fun J G W hG => fun Dl hD => ?_)
    refine lc_it W (fun i H2 => Same H H2 ∧ ∃ vs, Bld m Dl H2 vs ((List.replicate i row0).map rowD)) ?_ ?_ ?_ ?_
    · exact ⟨same_new hD, [], Bld.start hm hD⟩
    · exact fun i H2 _ q => hG _ (fun _ e => q.1 _ _ e)
    · rintro i y H2 H3 hi ⟨sm, vs, bl⟩ ⟨rfl, er⟩
      refine ⟨rfl, ?_⟩
      refine ⟨(by show 4 ≤ sizeLine; decide), fun R hR => ?_⟩
      have bl3 := bl.same (Same.new (o := .tup (rowV row0)) hR)
      have nR : R ≠ m := fun z => by
        rw [z, sm _ _ hm] at hR
        cases hR
      have nD : R ≠ Dl := fun z => by
        rw [z, bl.2.1] at hR
        cases hR
      refine ⟨vs, bl3.2.1, ?_, ?_, vs ++ [.ref R], ?_⟩
      · rw [bl.len, List.length_map, List.length_replicate]
        exact small6 (by omega)
      · intro b u e
        rw [upd_ne (ne_of_none e hD)]
        exact same_new hR _ _ (sm _ _ e)
      · rw [List.replicate_succ', List.map_append]
        exact bl3.push (row_at nR upd_same) (row_at nD upd_same)
    · rintro H2 ⟨s2, vs, bl⟩
      rw [lus] at bl
      refine ⟨_, _, rfl, .inl ⟨SqL.of bl.2.1, fun q hq => ?_⟩⟩
      exact k q _ (Same.tr s2 (same_new hq)) (bl.tup (s2 _ _ hm) hq)
end
end C79

set_option Elab.async false
set_option maxRecDepth 100000
set_option maxHeartbeats 4000000
set_option linter.all false
namespace C79
open PySem L2 My M78
abbrev sRfs : Stmt := top 25
abbrev nRfs : List Str := ["scripts", "rows", "before", "done", "state", "at", "after", "refused"]
theorem scRfs : FnScope nRfs ["scripts"] (defScope sRfs) := ⟨rfl, rfl, rfl, by decide +kernel, rfl, by decide +kernel, by decide +kernel⟩
abbrev sStk : Stmt := top 27
abbrev nStk : List Str := ["scripts", "rows", "before", "done", "state", "at", "after"]
theorem scStk : FnScope nStk ["scripts"] (defScope sStk) := ⟨rfl, rfl, rfl, by decide +kernel, rfl, by decide +kernel, by decide +kernel⟩
abbrev sCmd : Stmt := top 37
abbrev nCmd : List Str := ["scripts", "pairs", "at", "script", "many", "some", "changed", "k", "step"]
theorem scCmd : FnScope nCmd ["scripts"] (defScope sCmd) := ⟨rfl, rfl, rfl, by decide +kernel, rfl, by decide +kernel, by decide +kernel⟩
abbrev sIsO : Stmt := top 29
abbrev nIsO : List Str := ["scripts", "order", "state", "k", "at", "refused"]
theorem scIsO : FnScope nIsO ["scripts", "order"] (defScope sIsO) := ⟨rfl, rfl, rfl, by decide +kernel, rfl, by decide +kernel, by decide +kernel⟩
abbrev sIsS : Stmt := top 30
abbrev nIsS : List Str := ["scripts", "order", "state", "at"]
theorem scIsS : FnScope nIsS ["scripts", "order"] (defScope sIsS) := ⟨rfl, rfl, rfl, by decide +kernel, rfl, by decide +kernel, by decide +kernel⟩
abbrev sNxt : Stmt := top 23
abbrev nNxt : List Str := ["scripts", "state", "at", "row"]
theorem scNxt : FnScope nNxt ["scripts", "state", "at"] (defScope sNxt) := ⟨rfl, rfl, rfl, by decide +kernel, rfl, by decide +kernel, by decide +kernel⟩
abbrev sNev : Stmt := top 33
abbrev nNev : List Str := ["scripts", "states", "word", "due"]
theorem scNev : FnScope nNev ["scripts", "states"] (defScope sNev) := ⟨rfl, rfl, rfl, by decide +kernel, rfl, by decide +kernel, by decide +kernel⟩
abbrev sFre : Stmt := top 34
abbrev nFre : List Str := ["scripts", "states", "word", "due"]
theorem scFre : FnScope nFre ["scripts", "states"] (defScope sFre) := ⟨rfl, rfl, rfl, by decide +kernel, rfl, by decide +kernel, by decide +kernel⟩
section
variable {P : Program} {w : World} {K : PySem.W.Frag} {mg : Str → Option Value} {base : Heap}
variable {CE CD CP fI : Addr}
/-- no scripts: an error -/
def spBad (CP : Addr) (n : Nat) : Sp := fun vs H Q E => ∃ (m : Addr) (x : V) (o : HO) (d : PyData) (rest : List V), vs = x :: rest ∧ rest.length = n ∧ H m = some o ∧ Ax m H x d ∧ (∀ ds, Sq2 d ds → ds.length ≤ 1000 ∧ ∀ e ∈ ds, ∀ es, Sq2 e es → es.length ≤ 1000) ∧ areScr d = false ∧
  ∀ (dd : Addr) (H' : Hp), Same H H' → H' dd = some (.xd [(fld, .non)]) → E (.ref CP) (some dd) H'
theorem bad_first (h : PrX P w K mg base 4 "first_state" ["scripts"] (spFsX CP)) : PrX P w K mg base 4 "first_state" ["scripts"] (spBad CP 0) := by
  obtain ⟨f, fd, F, r⟩ := h
  refine ⟨f, fd, F.imp fun vs H Q E q => ?_, r⟩
  obtain ⟨m, x, o, d, rest, rfl, hl, hm, ha, hsz, hsc, kE⟩ := q
  obtain rfl := List.length_eq_zero_iff.mp hl
  exact ⟨m, x, o, d, rfl, hm, ha, hsz, (fun z => by rw [hsc] at z; cases z), fun _ dd H' s' e => kE dd H' s' e⟩
theorem pr_rfs (D : Df K mg "refusal" sRfs ["scripts"]) (PC : PrX P w K mg base 3 "checked" ["scripts"] (spCkX CP)) : PrX P w K mg base 4 "refusal" ["scripts"] (spBad CP 0) := by
  obtain ⟨f, fd, F, b, g⟩ := D
  refine ⟨f, fd, F.okX scRfs (fun vs H Q E h => ?_) (fun cdv Ar outer s H vs Q E hr h => ?_), g, F.kp, b⟩
  · obtain ⟨m, x, o, d, rest, rfl, hl, _⟩ := h
    rw [List.length_cons, hl]
    rfl
  · obtain ⟨m, x, o, d, rest, rfl, hl, hm, ha, hsz, hsc, kE⟩ := h
    have nd := scRfs.nd
    refine ⟨_, pss_cons (ps_asg (pe_callPX PC hr (by rfl) (takes_of rfl rfl rfl rfl) (pa_cons (pv 0) pa_nil)) (pg_name (i := 0) nd rfl (Or.inl rfl))) pss_never, ?_⟩
    exact ⟨_, rfl, m, x, o, d, rfl, hm, ha, hsz, (fun z => by rw [hsc] at z; cases z), fun _ dd H' s' e => kE dd H' s' e⟩
theorem pr_stk (D : Df K mg "stuck" sStk ["scripts"]) (PC : PrX P w K mg base 3 "checked" ["scripts"] (spCkX CP)) : PrX P w K mg base 4 "stuck" ["scripts"] (spBad CP 0) := by
  obtain ⟨f, fd, F, b, g⟩ := D
  refine ⟨f, fd, F.okX scStk (fun vs H Q E h => ?_) (fun cdv Ar outer s H vs Q E hr h => ?_), g, F.kp, b⟩
  · obtain ⟨m, x, o, d, rest, rfl, hl, _⟩ := h
    rw [List.length_cons, hl]
    rfl
  · obtain ⟨m, x, o, d, rest, rfl, hl, hm, ha, hsz, hsc, kE⟩ := h
    have nd := scStk.nd
    refine ⟨_, pss_cons (ps_asg (pe_callPX PC hr (by rfl) (takes_of rfl rfl rfl rfl) (pa_cons (pv 0) pa_nil)) (pg_name (i := 0) nd rfl (Or.inl rfl))) pss_never, ?_⟩
    exact ⟨_, rfl, m, x, o, d, rfl, hm, ha, hsz, (fun z => by rw [hsc] at z; cases z), fun _ dd H' s' e => kE dd H' s' e⟩
theorem pr_cmd (D : Df K mg "calmed" sCmd ["scripts"]) (PC : PrX P w K mg base 3 "checked" ["scripts"] (spCkX CP)) : PrX P w K mg base 4 "calmed" ["scripts"] (spBad CP 0) := by
  obtain ⟨f, fd, F, b, g⟩ := D
  refine ⟨f, fd, F.okX scCmd (fun vs H Q E h => ?_) (fun cdv Ar outer s H vs Q E hr h => ?_), g, F.kp, b⟩
  · obtain ⟨m, x, o, d, rest, rfl, hl, _⟩ := h
    rw [List.length_cons, hl]
    rfl
  · obtain ⟨m, x, o, d, rest, rfl, hl, hm, ha, hsz, hsc, kE⟩ := h
    have nd := scCmd.nd
    refine ⟨_, pss_cons (ps_asg (pe_callPX PC hr (by rfl) (takes_of rfl rfl rfl rfl) (pa_cons (pv 0) pa_nil)) (pg_name (i := 0) nd rfl (Or.inl rfl))) pss_never, ?_⟩
    exact ⟨_, rfl, m, x, o, d, rfl, hm, ha, hsz, (fun z => by rw [hsc] at z; cases z), fun _ dd H' s' e => kE dd H' s' e⟩
theorem pr_iso (D : Df K mg "is_order" sIsO ["scripts", "order"]) (PC : PrX P w K mg base 3 "checked" ["scripts"] (spCkX CP)) : PrX P w K mg base 4 "is_order" ["scripts", "order"] (spBad CP 1) := by
  obtain ⟨f, fd, F, b, g⟩ := D
  refine ⟨f, fd, F.okX scIsO (fun vs H Q E h => ?_) (fun cdv Ar outer s H vs Q E hr h => ?_), g, F.kp, b⟩
  · obtain ⟨m, x, o, d, rest, rfl, hl, _⟩ := h
    rw [List.length_cons, hl]
    rfl
  · obtain ⟨m, x, o, d, rest, rfl, hl, hm, ha, hsz, hsc, kE⟩ := h
    have nd := scIsO.nd
    refine ⟨_, pss_cons (ps_asg (pe_callPX PC hr (by rfl) (takes_of rfl rfl rfl rfl) (pa_cons (pv 0) pa_nil)) (pg_name (i := 0) nd rfl (Or.inl rfl))) pss_never, ?_⟩
    exact ⟨_, rfl, m, x, o, d, rfl, hm, ha, hsz, (fun z => by rw [hsc] at z; cases z), fun _ dd H' s' e => kE dd H' s' e⟩
theorem pr_iss (D : Df K mg "is_stuck" sIsS ["scripts", "order"]) (PC : PrX P w K mg base 3 "checked" ["scripts"] (spCkX CP)) : PrX P w K mg base 4 "is_stuck" ["scripts", "order"] (spBad CP 1) := by
  obtain ⟨f, fd, F, b, g⟩ := D
  refine ⟨f, fd, F.okX scIsS (fun vs H Q E h => ?_) (fun cdv Ar outer s H vs Q E hr h => ?_), g, F.kp, b⟩
  · obtain ⟨m, x, o, d, rest, rfl, hl, _⟩ := h
    rw [List.length_cons, hl]
    rfl
  · obtain ⟨m, x, o, d, rest, rfl, hl, hm, ha, hsz, hsc, kE⟩ := h
    have nd := scIsS.nd
    refine ⟨_, pss_cons (ps_asg (pe_callPX PC hr (by rfl) (takes_of rfl rfl rfl rfl) (pa_cons (pv 0) pa_nil)) (pg_name (i := 0) nd rfl (Or.inl rfl))) pss_never, ?_⟩
    exact ⟨_, rfl, m, x, o, d, rfl, hm, ha, hsz, (fun z => by rw [hsc] at z; cases z), fun _ dd H' s' e => kE dd H' s' e⟩
theorem pr_nxt (D : Df K mg "next_state" sNxt ["scripts", "state", "at"]) (PC : PrX P w K mg base 3 "checked" ["scripts"] (spCkX CP)) : PrX P w K mg base 4 "next_state" ["scripts", "state", "at"] (spBad CP 2) := by
  obtain ⟨f, fd, F, b, g⟩ := D
  refine ⟨f, fd, F.okX scNxt (fun vs H Q E h => ?_) (fun cdv Ar outer s H vs Q E hr h => ?_), g, F.kp, b⟩
  · obtain ⟨m, x, o, d, rest, rfl, hl, _⟩ := h
    rw [List.length_cons, hl]
    rfl
  · obtain ⟨m, x, o, d, rest, rfl, hl, hm, ha, hsz, hsc, kE⟩ := h
    have nd := scNxt.nd
    refine ⟨_, pss_cons (ps_asg (pe_callPX PC hr (by rfl) (takes_of rfl rfl rfl rfl) (pa_cons (pv 0) pa_nil)) (pg_name (i := 0) nd rfl (Or.inl rfl))) pss_never, ?_⟩
    exact ⟨_, rfl, m, x, o, d, rfl, hm, ha, hsz, (fun z => by rw [hsc] at z; cases z), fun _ dd H' s' e => kE dd H' s' e⟩
theorem pr_nev (D : Df K mg "is_never" sNev ["scripts", "states"]) (PR : PrX P w K mg base 4 "refusal" ["scripts"] (spBad CP 0)) : PrX P w K mg base 5 "is_never" ["scripts", "states"] (spBad CP 1) := by
  obtain ⟨f, fd, F, b, g⟩ := D
  refine ⟨f, fd, F.okX scNev (fun vs H Q E h => ?_) (fun cdv Ar outer s H vs Q E hr h => ?_), g, F.kp, b⟩
  · obtain ⟨m, x, o, d, rest, rfl, hl, _⟩ := h
    rw [List.length_cons, hl]
    rfl
  · obtain ⟨m, x, o, d, rest, rfl, hl, hm, ha, hsz, hsc, kE⟩ := h
    have nd := scNev.nd
    refine ⟨_, pss_cons (ps_asg (pe_callPX PR hr (by rfl) (takes_of rfl rfl rfl rfl) (pa_cons (pv 0) pa_nil)) (pg_tup rfl (pgs_cons (pg_name (i := 2) nd rfl (Or.inl rfl)) (pgs_cons (pg_name (i := 3) nd rfl (Or.inl rfl)) pgs_nil)))) pss_never, ?_⟩
    exact ⟨_, rfl, m, x, o, d, [], rfl, rfl, hm, ha, hsz, hsc, kE⟩
theorem pr_fre (D : Df K mg "is_free" sFre ["scripts", "states"]) (PR : PrX P w K mg base 4 "stuck" ["scripts"] (spBad CP 0)) : PrX P w K mg base 5 "is_free" ["scripts", "states"] (spBad CP 1) := by
  obtain ⟨f, fd, F, b, g⟩ := D
  refine ⟨f, fd, F.okX scFre (fun vs H Q E h => ?_) (fun cdv Ar outer s H vs Q E hr h => ?_), g, F.kp, b⟩
  · obtain ⟨m, x, o, d, rest, rfl, hl, _⟩ := h
    rw [List.length_cons, hl]
    rfl
  · obtain ⟨m, x, o, d, rest, rfl, hl, hm, ha, hsz, hsc, kE⟩ := h
    have nd := scFre.nd
    refine ⟨_, pss_cons (ps_asg (pe_callPX PR hr (by rfl) (takes_of rfl rfl rfl rfl) (pa_cons (pv 0) pa_nil)) (pg_tup rfl (pgs_cons (pg_name (i := 2) nd rfl (Or.inl rfl)) (pgs_cons (pg_name (i := 3) nd rfl (Or.inl rfl)) pgs_nil)))) pss_never, ?_⟩
    exact ⟨_, rfl, m, x, o, d, [], rfl, rfl, hm, ha, hsz, hsc, kE⟩
end
end C79

set_option Elab.async false
set_option maxRecDepth 100000
set_option maxHeartbeats 4000000
set_option linter.all false
/-! xs[::-1] of a tuple; of a list or a tuple, whichever it is. -/
namespace My
open PySem PySem.Spec PyProof.Rows L2 HT
theorem rev_adjust (n : Nat) : Builtin.Slice.sliceAdjust none none (-1) (n : Int) = ((n : Int) - 1, -1) := by
  simp [Builtin.Slice.sliceAdjust]
theorem rev_places (n : Nat) : Builtin.Slice.slicePlaces ((n : Int) - 1) (-1) (-1) = n := by
  unfold Builtin.Slice.slicePlaces
  rw [if_neg (by decide)]
  by_cases h : n = 0
  · subst h
    rfl
  · rw [if_pos (by omega), show (n : Int) - 1 - -1 - 1 = (n : Int) - 1 by omega, show (-(-1 : Int)) = 1 from rfl, Int.ediv_one]
    omega
theorem fm_congr {α β : Type} {f g : α → Option β} : ∀ {l : List α}, (∀ x ∈ l, f x = g x) → l.filterMap f = l.filterMap g
  | [], _ => rfl
  | a :: r, h => by
    have e := fm_congr (l := r) fun x hx => h x (List.mem_cons_of_mem _ hx)
    rw [List.filterMap_cons, List.filterMap_cons, h a (List.mem_cons_self ..), e]
theorem rev_pick (xs : Array Value) : ((List.range xs.size).filterMap fun (m : Nat) => xs[(((xs.size : Int) - 1) + (m : Int) * (-1)).toNat]?).toArray = xs.toList.reverse.toArray := by
  congr 1
  have e : (List.range xs.size).filterMap (fun (m : Nat) => xs[(((xs.size : Int) - 1) + (m : Int) * (-1)).toNat]?) = ((List.range xs.size).map fun k => xs.size - 1 - k).filterMap (xs[·]?) := by
    rw [List.filterMap_map]
    refine fm_congr fun m hm => ?_
    have := List.mem_range.mp hm
    show xs[_]? = xs[xs.size - 1 - m]?
    rw [show (((xs.size : Int) - 1) + (m : Int) * (-1)).toNat = xs.size - 1 - m by omega]
  rw [e, PySem.W.krv_range, List.filterMap_reverse, PySem.W.krv_all]
section
variable {prog : Program} {w : World} {A : Around} {E : Value → Shared → Prop} {s : Shared}
theorem rev_applied {sl : Addr} {vl vu vs : Value} {n : Nat} {Q : Int × Int × Nat → Shared → Prop} (hs : s.heap.IsSliceOf sl vl vu vs) (pl : IsPart vl none) (pu : IsPart vu none) (ps : IsPart vs (some (-1))) (h : Q ((n : Int) - 1, -1, n) s) :
    wpAny (model prog w) A (Builtin.Slice.sliceApplied (.ref sl) (pure (n : Int))) Q E s := by
  obtain ⟨o, ho, hc, hd⟩ := id hs
  unfold Builtin.Slice.sliceApplied Builtin.Slice.sliceFields
  refine wpAny_bind (wpAny_bind (wpAny_field ho hd (x := vl) rfl ?_))
  refine wpAny_bind (wpAny_field ho hd (x := vu) rfl ?_)
  refine wpAny_bind (wpAny_field ho hd (x := vs) rfl (wpAny_pure ?_))
  refine wpAny_bind (slicePart_ ps ?_)
  show wpAny _ _ (if ((-1 : Int) == 0) = true then _ else _) _ _ s
  rw [if_neg (show ¬ ((-1 : Int) == 0) = true by decide)]
  refine wpAny_bind (slicePart_ pl ?_)
  refine wpAny_bind (slicePart_ pu (wpAny_bind (wpAny_pure ?_)))
  show wpAny _ _ (match Builtin.Slice.sliceAdjust none none (-1) (n : Int) with | (a, b) => pure (a, (-1 : Int), Builtin.Slice.slicePlaces a b (-1))) _ _ s
  rw [rev_adjust n]
  show wpAny _ _ (pure ((n : Int) - 1, (-1 : Int), Builtin.Slice.slicePlaces ((n : Int) - 1) (-1) (-1))) _ _ s
  rw [rev_places]
  exact wpAny_pure h
theorem item_rev {t sl : Addr} {items : Array Value} {vl vu vs : Value} {Q : Value → Shared → Prop} (ht : IsTup s.heap t items) (hs : s.heap.IsSliceOf sl vl vu vs) (pl : IsPart vl none) (pu : IsPart vu none) (ps : IsPart vs (some (-1))) (hz : items.size ≤ sizeLine)
    (h : Q (.ref s.heap.objs.size) { s with heap := s.heap.push { cls := .type "tuple", data := .seq items.toList.reverse.toArray } }) : wpAny (model prog w) A (getItem (.ref t) (.ref sl)) Q E s := by
  have hk : sizeOk (.seq items.toList.reverse.toArray) := by
    show items.toList.reverse.toArray.size ≤ sizeLine
    rw [List.size_toArray, List.length_reverse, Array.length_toList]
    exact hz
  obtain ⟨o, ho, hc, hd⟩ := id hs
  have hT : s.TypeIs (.ref sl) "slice" := ⟨o, ho, hc⟩
  unfold getItem
  try with_reducible refine wpAny_holding ?_
  first | refine wpAny_bind (wpAny_pure ?_) | skip
  refine wpAny_bind (wpAny_sequenceKey ht.typeIs (by decide) ?_)
  refine wpAny_bind (wpAny_callSpecial?_slot (name := Str.ofString "__getitem__") ht.typeIs PyProof.Rows.slot_tuple_getitem (wpAny_call_entry PyProof.Rows.slot_tuple_getitem ht.typeIs entry_tuple_getitem ?_ (args_tuple_getitem _ _)))
  show wpAny _ _ (Builtin.Tuple.tupleItemsOf (.ref t) >>= _) _ _ s
  refine wpAny_bind (tupleItemsOf_ ht (wpAny_bind (wpAny_typeOf hT ?_)))
  rw [if_pos (by decide)]
  refine wpAny_bind (rev_applied hs pl pu ps ?_)
  have hno : ¬ ((((items.size : Int) - 1) == 0 && (-1 : Int) == 1 && items.size == items.size) = true) := by
    rw [show ((-1 : Int) == 1) = false from rfl, Bool.and_false, Bool.false_and]
    exact Bool.false_ne_true
  show wpAny _ _ (if (((items.size : Int) - 1) == 0 && (-1 : Int) == 1 && items.size == items.size) = true then _ else _) _ _ s
  rw [if_neg hno, rev_pick]
  first
    | exact wpAny_bind (m := Builtin.Tuple.tupleExact _) (wpAny_newObj_type (wpAny_pure ⟨_, rfl, wpAny_pure h⟩) hk)
    | exact wpAny_bind (m := Builtin.Tuple.tupleExact _) (wpAny_newObj_type (wpAny_bind (wpAny_pure (wpAny_pure ⟨_, rfl, wpAny_pure h⟩))) hk)
end
section
variable {X : Cx}
def tRevT (K : PySem.W.Frag) (te : TE) : TE := fun σ H Q => te σ H fun x H1 => ∃ a xs, x = .ref a ∧ SqT K H1 a xs ∧ ∀ p, H1 p = none → Q (.ref p) (upd H1 p (.tup xs.reverse))
theorem pe_revT {e : Expr} {te : TE} {k : Nat} {p1 p2 p3 pos : Pos} (he : PE X e te) : PE X (.Subscript e (.Slice none none (some (.UnaryOp .USub (.Constant (.int 1) k p1) p2)) p3) pos) (tRevT X.K te) := by
  refine ⟨fun pins s σ H Q I h => ?_⟩
  refine Subscript_ (thn (he.run pins s σ H _ I h) fun v s1 ⟨x, H1, I1, r1, a, xs, ex, hx, q⟩ => ?_)
  subst ex
  cases r1
  have step : PO X (some (.UnaryOp .USub (.Constant (.int 1) k p1) p2)) (tPart (tUn (rU fun i => .int (-i)) (tC (.int 1)))) := po_some (pe_un un_neg pe_int)
  refine wpAny_Slice (thn (po_none.run pins s1 σ H1 (fun o H2 => o = none ∧ H2 = H1) I1 ⟨rfl, rfl⟩) fun vl s2 ⟨l, H2, I2, pl, el, e2⟩ => ?_)
  subst el e2
  refine thn (po_none.run pins s2 σ H2 (fun o H3 => o = none ∧ H3 = H2) I2 ⟨rfl, rfl⟩) fun vu s3 ⟨u, H3, I3, pu, eu, e3⟩ => ?_
  subst eu e3
  refine thn (step.run pins s3 σ H3 (fun o H4 => o = some (-1) ∧ H4 = H3) I3 ⟨1, rfl, -1, rfl, rfl, rfl⟩) fun vs s4 ⟨o, H4, I4, ps, eo, e4⟩ => ?_
  subst eo e4
  have I5 : Inv X pins σ H4 { s4 with heap := s4.heap.push { cls := .type "slice", data := .fields #[vl, vu, vs] } } := I4.kept (t' := s4.toks) fun b ob q => Heap.get?_push_of_some _ q
  obtain ⟨its, r, ht, hz⟩ := I5.tuple hx
  have hlen := r.length
  show wpAny (model X.prog X.w) X.A (subscriptTail e (.Slice none none (some (.UnaryOp .USub (.Constant (.int 1) k p1) p2)) p3) (.ref a) (.ref s4.heap.objs.size)) (EP X pins σ Q) X.xe { s4 with heap := s4.heap.push { cls := .type "slice", data := .fields #[vl, vu, vs] } }
  refine tail_any (ops := [.ref a, .ref s4.heap.objs.size]) ht.typeIs PyProof.Rows.slot_tuple_getitem.lookup ?_ (by with_unfolding_all rfl)
  refine item_rev ht (Heap.IsSliceOf.new _ vl vu vs) pl pu ps (by rw [List.size_toArray]; omega) ?_
  refine ⟨.ref _, _, I5.laid (t' := s4.toks) (o := .tup xs.reverse) (fun b ob q => Heap.get?_push_of_some _ q) (Nat.le_refl _) ?_, rfl, q _ (I5.hok.fresh (Nat.le_refl _))⟩
  exact ⟨by rw [List.length_reverse]; exact hz, _, r.reverse, IsTup.new _ _⟩
theorem pe_or2 {e : Expr} {t1 t2 : TE} (h1 : PE X e t1) (h2 : PE X e t2) : PE X e (fun σ H Q => t1 σ H Q ∨ t2 σ H Q) := ⟨fun pins s σ H Q I h => by
  rcases h with h | h
  · exact h1.run pins s σ H Q I h
  · exact h2.run pins s σ H Q I h⟩
end
end My

set_option Elab.async false
set_option maxRecDepth 100000
set_option maxHeartbeats 4000000
set_option linter.all false
namespace C79
open PySem L2 My M78
abbrev sLSc : Stmt := top 50
abbrev nLSc : List Str := ["_law_thing", "_law_opened", "_law_reads", "_law_word_here", "_law_begins", "_law_ends"]
theorem scLSc : FnScope nLSc ["_law_thing"] (defScope sLSc) := ⟨rfl, rfl, rfl, by decide +kernel, rfl, by decide +kernel, by decide +kernel⟩
abbrev sLAre : Stmt := top 51
abbrev nLAre : List Str := ["_law_thing", "_law_one_here"]
theorem scLAre : FnScope nLAre ["_law_thing"] (defScope sLAre) := ⟨rfl, rfl, rfl, by decide +kernel, rfl, by decide +kernel, by decide +kernel⟩
abbrev sRow : Stmt := top 54
abbrev nRow : List Str := ["_law_like", "_law_thing"]
theorem scRow : FnScope nRow ["_law_like", "_law_thing"] (defScope sRow) := ⟨rfl, rfl, rfl, by decide +kernel, rfl, by decide +kernel, by decide +kernel⟩
abbrev sOdd : Stmt := top 48
abbrev nOdd : List Str := ["_law_state", "_law_some"]
theorem scOdd : FnScope nOdd ["_law_state"] (defScope sOdd) := ⟨rfl, rfl, rfl, by decide +kernel, rfl, by decide +kernel, by decide +kernel⟩
abbrev sWord : Stmt := top 52
abbrev nWord : List Str := ["_law_state", "_law_words"]
theorem scWord : FnScope nWord ["_law_state"] (defScope sWord) := ⟨rfl, rfl, rfl, by decide +kernel, rfl, by decide +kernel, by decide +kernel⟩

def w1b (d : PyData) : Bool := d.showable && d.leavesShort 20 && decide (d.depth ≤ 2) && decide (d.weight ≤ 60)
def z1b (n : Nat) : PyData → Bool
  | .list ds => decide (ds.length ≤ n) && ds.all w1b
  | .tuple ds => decide (ds.length ≤ n) && ds.all w1b
  | d => w1b d
def z2b (n : Nat) : PyData → Bool
  | .list ds => decide (ds.length ≤ 5) && ds.all (z1b n)
  | .tuple ds => decide (ds.length ≤ 5) && ds.all (z1b n)
  | d => w1b d
theorem z1_sq {n : Nat} {d : PyData} {ds : List PyData} (s : Sq2 d ds) : z1b n d = (decide (ds.length ≤ n) && ds.all w1b) := by rcases s with rfl | rfl <;> rfl
theorem z2_sq {n : Nat} {d : PyData} {ds : List PyData} (s : Sq2 d ds) : z2b n d = (decide (ds.length ≤ 5) && ds.all (z1b n)) := by rcases s with rfl | rfl <;> rfl
theorem z1_mono {n m : Nat} {d : PyData} (h : n ≤ m) (z : z1b n d = true) : z1b m d = true := by
  have key : ∀ ds : List PyData, (decide (ds.length ≤ n) && ds.all w1b) = true → (decide (ds.length ≤ m) && ds.all w1b) = true := fun ds q => by
    rw [Bool.and_eq_true_iff] at q ⊢
    exact ⟨decide_eq_true (Nat.le_trans (of_decide_eq_true q.1) h), q.2⟩
  cases d <;> first | exact key _ z | exact z
theorem z2_mono {n m : Nat} {d : PyData} (h : n ≤ m) (z : z2b n d = true) : z2b m d = true := by
  have key : ∀ ds : List PyData, (decide (ds.length ≤ 5) && ds.all (z1b n)) = true → (decide (ds.length ≤ 5) && ds.all (z1b m)) = true := fun ds q => by
    rw [Bool.and_eq_true_iff] at q ⊢
    refine ⟨q.1, List.all_eq_true.mpr fun x hx => z1_mono h (List.all_eq_true.mp q.2 x hx)⟩
  cases d <;> first | exact key _ z | exact z
def begD : PyData := .str "begin"
def rw0D : List PyData := [.int 0, .bool false, .bool false, .int 0]
/-- the odd objects -/
def oddL : List PyData := [.none, .bool true, .bool false, .int 0, .int 1, .int (-1), .int (2 ^ 40), .str "", .str "begin", .str "reads", .str "BEGIN", .str "write ", .list [], .tuple [], .dict (dkD []), .dict (dkD [("begin", 1)])] ++
  [.tuple [.str "begin"], .list [.list [.str "read"]], .tuple [.none], .list [.int 0], .tuple [.bool true], .tuple [.tuple rw0D], .list [.list rw0D]]
theorem odd_ok : (oddL.all fun d => w1b d && z1b 4 d && z2b 4 d) = true := by decide +kernel
theorem odd_w {d : PyData} (h : d ∈ oddL) : w1b d = true ∧ z1b 4 d = true ∧ z2b 4 d = true := by
  have := List.all_eq_true.mp odd_ok d h
  rw [Bool.and_eq_true_iff, Bool.and_eq_true_iff] at this
  exact ⟨this.1.1, this.1.2, this.2⟩
theorem word_w (v : Wd) : w1b (.str (wS v)) = true := by cases v <;> decide +kernel
/-- a list (true) or a tuple (false) of these -/
def SqK (k : Bool) (H : Hp) (a : Addr) (us : List V) : Prop := if k = true then H a = some (.lst us) else H a = some (.tup us)
theorem Sq.k {H : Hp} {a : Addr} {us : List V} (h : Sq H a us) : ∃ k, SqK k H a us := by
  rcases h with h | h
  · exact ⟨true, h⟩
  · exact ⟨false, h⟩
section
variable {P : Program} {w : World} {K : PySem.W.Frag} {mg : Str → Option Value} {base : Heap}

def spLSc : Sp := fun vs H Q _ => ∃ (m : Addr) (x : V) (d : PyData), vs = [x] ∧ Ax m H x d ∧ (∀ ds, Sq2 d ds → ds.length ≤ 1000) ∧ ∀ H', Same H H' → Q (.bl (isScr d)) H'
theorem pr_lsc (D : Df K mg "_law_is_script" sLSc ["_law_thing"]) (T : Ty mg) (T3 : mg "str" = none) : Pr P w K mg base 1 "_law_is_script" ["_law_thing"] spLSc := by
  refine D.pr scLSc (fun vs H Q E h => ?_) (fun f cdv A outer s H vs Q E hr h => ?_)
  · obtain ⟨m, x, d, rfl, _⟩ := h
    rfl
  · obtain ⟨m, x, d, rfl, ha, hsz, k⟩ := h
    have nd := scLSc.nd
    refine ⟨_, (pss_cons (ps_if (PW.pt (pw_or (pt_not (pt_val (pe_callB call_isiT (by rfl) T.isinstance (by decide +kernel) (pa_cons (pv 0) (pa_cons (pe_tup (pa_cons (pe_bltn (v := .ty "list") (by rfl) T.list (by decide +kernel) rfl) (pa_cons (pe_bltn (v := .ty "tuple") (by rfl) T.tuple (by decide +kernel) rfl) pa_nil))) pa_nil))))) (pw_or1 (pt_cmpR op_gt (pe_callB call_len (by rfl) T.len PySem.boot_len (pa_cons (pv 0) pa_nil)) pe_int (nomark _)))))
        (pss_one (ps_ret pe_bl))
        pss_nil)
      (pss_cons (ps_asg (pe_tup (pa_cons pe_bl (pa_cons pe_bl pa_nil))) (pg_tup rfl (pgs_cons (pg_name (i := 1) nd rfl (Or.inl rfl)) (pgs_cons (pg_name (i := 2) nd rfl (Or.inl rfl)) pgs_nil))))
      (pss_cons (ps_for PassesOwn.never rfl (pi_sq (pv 0)) (pg_name (i := 3) nd rfl (Or.inl rfl))
        (pss_cons (ps_asg (pe_tup (pa_cons (pe_tup (pa_cons pe_str (pa_cons pe_str (pa_cons pe_str pa_nil)))) (pa_cons (pe_tup (pa_cons pe_str (pa_cons pe_str pa_nil))) pa_nil))) (pg_tup rfl (pgs_cons (pg_name (i := 4) nd rfl (Or.inl rfl)) (pgs_cons (pg_name (i := 5) nd rfl (Or.inl rfl)) pgs_nil))))
        (pss_cons (ps_if (PW.pt (pw_or (pt_not (pt_val (pe_callB call_isi (by rfl) T.isinstance (by decide +kernel) (pa_cons (pv 3) (pa_cons (pe_bltn (v := .ty "str") (by rfl) T3 (by decide +kernel) rfl) pa_nil))))) (pw_or1 (pt_cmpR op_notIn_seq (pv 3) (pe_op op_catA (pe_op op_catA (pv 4) (pv 5)) (pe_tup (pa_cons pe_str (pa_cons pe_str (pa_cons pe_str (pa_cons pe_str pa_nil)))))) (by rfl)))))
          (pss_one (ps_ret pe_bl))
          pss_nil)
        (pss_cons (ps_if (PW.pt (pw_or (PW.pt (pw_and (pt_cmpR op_in_seq (pv 3) (pv 4) (by rfl)) (pw_and1 (pt_val (pv 1))))) (pw_or1 (PW.pt (pw_and (pt_cmpR op_in_seq (pv 3) (pv 5) (by rfl)) (pw_and1 (pt_not (pt_val (pv 1)))))))))
          (pss_one (ps_ret pe_bl))
          pss_nil)
        (pss_cons (ps_if (PW.pt (pw_or (PW.pt (pw_and (pt_cmpR op_eq (pv 3) pe_str (nomark _)) (pw_and1 (pt_val (pv 2))))) (pw_or1 (PW.pt (pw_and (pt_cmpR op_eq (pv 3) pe_str (nomark _)) (pw_and1 (pt_not (pt_val (pv 2)))))))))
          (pss_one (ps_ret pe_bl))
          pss_nil)
        (pss_cons (ps_asg (pe_and (pe_cmpR op_notIn_seq (pv 3) (pv 5) (by rfl)) (pe_one (pe_or (pv 1) (pe_one (pe_cmpR op_in_seq (pv 3) (pv 4) (by rfl)))))) (pg_name (i := 1) nd rfl (Or.inl rfl)))
        (pss_one (ps_asg (pe_and (pe_cmpR op_ne (pv 3) pe_str (nomark _)) (pe_one (pe_or (pv 2) (pe_one (pe_cmpR op_eq (pv 3) pe_str (nomark _)))))) (pg_name (i := 2) nd rfl (Or.inl rfl))))))))))
      (pss_one (ps_ret pe_bl))))), ?_⟩
    refine ⟨_, rfl, (by show 2 ≤ sizeLine; decide), fun tp htp => ?_⟩
    have s1 := same_new (o := .tup [.ty "list", .ty "tuple"]) htp
    have e1 := upd_same (H := H) (a := tp) (o := .tup [.ty "list", .ty "tuple"])
    generalize upd H tp (.tup [.ty "list", .ty "tuple"]) = H1 at s1 e1 ⊢
    refine ⟨_, _, _, _, _, isLT d, rfl, e1, cls_all ["list", "tuple"], (ha.mono (Same.but (m := m) s1)).ty, kit_any (k_lt d), ?_⟩
    refine ⟨_, rfl, ?_⟩
    cases hlt : isLT d
    · refine iteT (iteT ?_)
      rw [← isScr_no hlt]
      exact k _ s1
    obtain ⟨ds, sq⟩ := isLT_sq hlt
    obtain ⟨p, us, rfl, np, hsq, hus⟩ := ax_sq ha sq
    have hlen := hus.length
    have hz := hsz ds sq
    refine iteF ?_
    refine ⟨_, rfl, _, _, rfl, (hsq.same s1).len, _, _, rfl, rfl, _, rfl, ?_⟩
    by_cases h8 : (8 : Int) < (us.length : Int)
    · rw [decide_eq_true h8]
      refine iteT ?_
      have : isScr d = false := by
        rw [isScr_sq sq]
        unfold sc1
        rw [decide_eq_false (show ¬ ds.length ≤ 8 by omega)]
        rfl
      rw [← this]
      exact k _ s1
    rw [decide_eq_false h8]
    refine iteF ?_
    have hsc : isScr d = scn false false ds := by
      rw [isScr_sq sq]
      unfold sc1
      rw [decide_eq_true (show ds.length ≤ 8 by omega)]
      rfl
    refine ⟨(by show 2 ≤ sizeLine; decide), fun B9 nB9 => ?_⟩
    generalize hB9 : upd H1 B9 _ = H1b
    have sB9 : Same H1 H1b := hB9 ▸ Same.new nB9
    have eB9 : H1b B9 = some (.tup [.bl false, .bl false]) := hB9 ▸ upd_same
    clear hB9
    refine ⟨_, _, rfl, SqT.of eB9, rfl, _, _, rfl, _, _, rfl, rfl, ?_⟩
    have s1 := Same.tr s1 sB9
    refine isq (a := p) (us := us) (fun Q q => ⟨_, rfl, q⟩) (hsq.same s1) (fun J G W hG => ?_)
    refine for_it W (fun i σ H2 => Same H1b H2 ∧ ∃ o r o3 o4 o5, σ = [some (.ref p), some (.bl o), some (.bl r), o3, o4, o5] ∧ scn o r (ds.drop i) = scn false false ds) ⟨fun _ _ e => e, _, _, _, _, _, rfl, rfl⟩ (fun i σ H2 _ q => hG _ (fun _ e => q.1 _ _ e)) ?_ ?_
    · rintro i x σ H2' H2 hi ⟨s2, fo, fr, o3, o4, o5, rfl, hs⟩ ⟨rfl, ex⟩
      obtain ⟨dx, e1', ax⟩ := hus.get ex
      obtain ⟨hil, eil⟩ := List.getElem?_eq_some_iff.mp e1'
      rw [List.drop_eq_getElem_cons hil, eil] at hs
      have s12 := Same.tr s1 s2
      have ret : scn fo fr (dx :: ds.drop (i + 1)) = false → ∀ H', Same H2 H' → Q (.bl false) H' := fun e H' s' => by
        have : isScr d = false := by rw [hsc, ← hs, e]
        rw [← this]
        exact k _ (Same.tr s12 s')
      refine ⟨(by show 3 ≤ sizeLine; decide), fun B1 nB1 => ?_⟩
      generalize hB1 : upd H2 B1 _ = H3
      have sB1 : Same H2 H3 := hB1 ▸ Same.new nB1
      have eB1 : H3 B1 = some (.tup [.str (Str.ofString "begin"), .str (Str.ofString "immediate"), .str (Str.ofString "exclusive")]) := hB1 ▸ upd_same
      clear hB1
      refine ⟨(by show 2 ≤ sizeLine; decide), fun B2 nB2 => ?_⟩
      generalize hB2 : upd H3 B2 _ = H4
      have sB2 : Same H3 H4 := hB2 ▸ Same.new nB2
      have eB2 : H4 B2 = some (.tup [.str (Str.ofString "commit"), .str (Str.ofString "rollback")]) := hB2 ▸ upd_same
      clear hB2
      refine ⟨(by show 2 ≤ sizeLine; decide), fun B0 nB0 => ?_⟩
      generalize hB0 : upd H4 B0 _ = H4b
      have sB0 : Same H4 H4b := hB0 ▸ Same.new nB0
      have eB0 : H4b B0 = some (.tup [.ref B1, .ref B2]) := hB0 ▸ upd_same
      clear hB0
      have eB1 := sB0 _ _ (sB2 _ _ eB1)
      have eB2 := sB0 _ _ eB2
      refine ⟨_, _, rfl, SqT.of eB0, rfl, _, _, rfl, _, _, rfl, rfl, ?_⟩
      have s24 := Same.tr sB1 (Same.tr sB2 sB0)
      have q1 := SqT.of (K := K) eB1
      have q2 := SqT.of (K := K) eB2
      refine ⟨_, rfl, _, _, _, _, isStr dx, rfl, .ty "str", (ax.mono (Same.but (m := m) (Same.tr s12 s24))).ty, kit_ty (k_str dx), ?_⟩
      refine ⟨_, rfl, ?_⟩
      cases hst : isStr dx
      · refine iteT (iteT ?_)
        refine ret ?_ _ s24
        cases dx <;> first | rfl | cases hst
      obtain ⟨z, rfl⟩ : ∃ z, dx = .str z := by
        cases dx <;> first | exact ⟨_, rfl⟩ | cases hst
      cases ax
      refine iteF ?_
      refine ⟨_, rfl, ?_⟩
      refine ⟨_, rfl, _, rfl, B1, B2, _, _, rfl, rfl, q1, q2, (by show 5 ≤ sizeLine; decide), (fun e => nomatch e), (fun _ e => nomatch e), fun _ _ p1 hp1 => ?_⟩
      have t1 := same_new (o := .tup ([.str (Str.ofString "begin"), .str (Str.ofString "immediate"), .str (Str.ofString "exclusive")] ++ [.str (Str.ofString "commit"), .str (Str.ofString "rollback")])) hp1
      have e5 := upd_same (H := H4b) (a := p1) (o := .tup ([.str (Str.ofString "begin"), .str (Str.ofString "immediate"), .str (Str.ofString "exclusive")] ++ [.str (Str.ofString "commit"), .str (Str.ofString "rollback")]))
      generalize upd H4b p1 (.tup ([.str (Str.ofString "begin"), .str (Str.ofString "immediate"), .str (Str.ofString "exclusive")] ++ [.str (Str.ofString "commit"), .str (Str.ofString "rollback")])) = H5 at t1 e5 ⊢
      refine ⟨(by show 4 ≤ sizeLine; decide), fun B3 nB3 => ?_⟩
      generalize hB3 : upd H5 B3 _ = H6
      have sB3 : Same H5 H6 := hB3 ▸ Same.new nB3
      have eB3 : H6 B3 = some (.tup [.str (Str.ofString "read"), .str (Str.ofString "start"), .str (Str.ofString "stop"), .str (Str.ofString "write")]) := hB3 ▸ upd_same
      clear hB3
      refine ⟨p1, B3, _, _, rfl, rfl, SqT.of (sB3 _ _ e5), SqT.of eB3, (by show 9 ≤ sizeLine; decide), (fun e => nomatch e), (fun _ e => nomatch e), fun _ _ p2 hp2 => ?_⟩
      have t2 := same_new (o := .tup (([.str (Str.ofString "begin"), .str (Str.ofString "immediate"), .str (Str.ofString "exclusive")] ++ [.str (Str.ofString "commit"), .str (Str.ofString "rollback")]) ++ [.str (Str.ofString "read"), .str (Str.ofString "start"), .str (Str.ofString "stop"), .str (Str.ofString "write")])) hp2
      have e7 := upd_same (H := H6) (a := p2) (o := .tup (([.str (Str.ofString "begin"), .str (Str.ofString "immediate"), .str (Str.ofString "exclusive")] ++ [.str (Str.ofString "commit"), .str (Str.ofString "rollback")]) ++ [.str (Str.ofString "read"), .str (Str.ofString "start"), .str (Str.ofString "stop"), .str (Str.ofString "write")]))
      generalize upd H6 p2 (.tup (([.str (Str.ofString "begin"), .str (Str.ofString "immediate"), .str (Str.ofString "exclusive")] ++ [.str (Str.ofString "commit"), .str (Str.ofString "rollback")]) ++ [.str (Str.ofString "read"), .str (Str.ofString "start"), .str (Str.ofString "stop"), .str (Str.ofString "write")])) = H7 at t2 e7 ⊢
      have s47 : Same H4b H7 := Same.tr t1 (Same.tr sB3 t2)
      have s27 : Same H2 H7 := Same.tr s24 s47
      have qOp := SqT.of (K := K) (s47 _ _ eB1)
      have qEn := SqT.of (K := K) (s47 _ _ eB2)
      refine ⟨_, _, rfl, .inr (SqT.of e7), rfl, rfl, _, rfl, ?_⟩
      cases hw : wOf (.str z) with
      | none =>
        rw [wOf_none hw]
        refine iteT ?_
        refine ret ?_ _ s27
        show (match wOf (.str z) with | some v => okW v fo fr && scn (opB v fo) (rdB v fr) (ds.drop (i + 1)) | none => false) = false
        rw [hw]
      | some v =>
      have hz := wOf_some hw
      cases hz
      have hs' : scn fo fr (.str (wS v) :: ds.drop (i + 1)) = (okW v fo fr && scn (opB v fo) (rdB v fr) (ds.drop (i + 1))) := by
        show (match wOf (.str (wS v)) with | some v => okW v fo fr && scn (opB v fo) (rdB v fr) (ds.drop (i + 1)) | none => false) = _
        rw [hw]
      rw [in_all v]
      refine iteF ?_
      have eSta : decide (V.str (wS v) = V.str (Str.ofString "start")) = decide (v = .sta) := eqW v .sta
      have eSto : decide (V.str (wS v) = V.str (Str.ofString "stop")) = decide (v = .sto) := eqW v .sto
      dsimp only [tNext]
      refine seq_if_tv (isOp v && fo || (isEn v && !fo)) (fun K' kk => ?_) (fun hb => ?_) (fun hb => ?_)
      · refine ⟨_, rfl, _, rfl, _, _, rfl, .inr qOp, rfl, rfl, _, rfl, ?_⟩
        rw [in_op v]
        cases hop : isOp v
        · refine iteF (iteF ⟨_, rfl, _, rfl, _, _, rfl, .inr qEn, rfl, rfl, _, rfl, ?_⟩)
          rw [in_en v]
          rw [hop] at kk
          cases hen : isEn v
          · rw [hen] at kk
            exact iteF kk
          · rw [hen] at kk
            exact iteT ⟨_, rfl, _, rfl, kk⟩
        · rw [hop] at kk
          cases fo
          · refine iteT ⟨_, rfl, _, rfl, iteF ⟨_, rfl, _, rfl, _, _, rfl, .inr qEn, rfl, rfl, _, rfl, ?_⟩⟩
            have hen : isEn v = false := by
              cases v <;> first | rfl | cases hop
            rw [in_en v, hen]
            rw [hen] at kk
            exact iteF kk
          · exact iteT ⟨_, rfl, _, rfl, iteT kk⟩
      · refine ret ?_ _ s27
        rw [hs']
        unfold okW
        rw [hb]
        rfl
      dsimp only [tNext]
      refine seq_if_tv (decide (v = .sta) && fr || (decide (v = .sto) && !fr)) (fun K' kk => ?_) (fun hb2 => ?_) (fun hb2 => ?_)
      · refine ⟨_, rfl, rfl, _, rfl, ?_⟩
        rw [eSta]
        by_cases hst : v = .sta
        · rw [decide_eq_true hst] at kk ⊢
          rw [decide_eq_false (show ¬ v = .sto by rw [hst]; decide)] at kk
          cases fr
          · refine iteT ⟨_, rfl, _, rfl, iteF ⟨_, rfl, rfl, _, rfl, ?_⟩⟩
            rw [eSto, decide_eq_false (show ¬ v = .sto by rw [hst]; decide)]
            exact iteF kk
          · exact iteT ⟨_, rfl, _, rfl, iteT kk⟩
        · rw [decide_eq_false hst] at kk ⊢
          refine iteF (iteF ⟨_, rfl, rfl, _, rfl, ?_⟩)
          rw [eSto]
          by_cases hso : v = .sto
          · rw [decide_eq_true hso] at kk ⊢
            exact iteT ⟨_, rfl, _, rfl, kk⟩
          · rw [decide_eq_false hso] at kk ⊢
            exact iteF kk
      · refine ret ?_ _ s27
        rw [hs']
        unfold okW
        rw [hb2, Bool.not_true, Bool.and_false]
        rfl
      have hok : okW v fo fr = true := by
        unfold okW
        rw [hb, hb2]
        rfl
      dsimp only [tNext]
      refine seq_asg_gv (x := .bl (bO v fo)) (Gv.and (fun Q' kk => ?_) (fun H8 s8 => Gv.or (fun Q' kk => ⟨_, rfl, kk _ (Same.rfl' _)⟩) (fun H9 s9 Q' kk => ?_))) ?_
      · refine ⟨_, rfl, _, rfl, _, _, rfl, .inr qEn, rfl, rfl, ?_⟩
        rw [in_en v]
        exact kk _ (Same.rfl' _)
      · refine ⟨_, rfl, _, rfl, _, _, rfl, .inr (SqT.of (s9 _ _ (s8 _ _ (s47 _ _ eB1)))), rfl, rfl, ?_⟩
        rw [in_op v]
        exact kk _ (Same.rfl' _)
      intro H12 s12'
      dsimp only [gName]
      refine asg_gv (x := .bl (bR v fr)) (Gv.and (fun Q' kk => ?_) (fun H8 s8 => Gv.or (fun Q' kk => ⟨_, rfl, kk _ (Same.rfl' _)⟩) (fun H9 s9 Q' kk => ?_))) ?_
      · refine ⟨_, rfl, rfl, ?_⟩
        rw [eSto]
        exact kk _ (Same.rfl' _)
      · refine ⟨_, rfl, rfl, ?_⟩
        rw [eSta]
        exact kk _ (Same.rfl' _)
      intro H13 s13
      refine ⟨Same.tr s2 (Same.tr s27 (Same.tr s12' s13)), _, _, _, _, _, rfl, ?_⟩
      rw [← hs, hs', hok, bO_is, bR_is]
      rfl
    · rintro σ H2 ⟨s2, fo, fr, o3, o4, o5, rfl, hs⟩
      rw [hlen, List.drop_length] at hs
      have : isScr d = true := by rw [hsc, ← hs]; rfl
      rw [← this]
      exact k _ (Same.tr s1 s2)
def spLAre : Sp := fun vs H Q _ => ∃ (m : Addr) (x : V) (d : PyData), vs = [x] ∧ Ax m H x d ∧ (∀ ds, Sq2 d ds → ds.length ≤ 1000 ∧ ∀ e ∈ ds, ∀ es, Sq2 e es → es.length ≤ 1000) ∧ ∀ H', Same H H' → Q (.bl (areScr d)) H'
theorem pr_lare (D : Df K mg "_law_are_scripts" sLAre ["_law_thing"]) (T : Ty mg) (PI : Pr P w K mg base 1 "_law_is_script" ["_law_thing"] spLSc) : Pr P w K mg base 2 "_law_are_scripts" ["_law_thing"] spLAre := by
  refine D.pr scLAre (fun vs H Q E h => ?_) (fun f cdv A outer s H vs Q E hr h => ?_)
  · obtain ⟨m, x, d, rfl, _⟩ := h
    rfl
  · obtain ⟨m, x, d, rfl, ha, hsz, k⟩ := h
    have nd := scLAre.nd
    refine ⟨_, (pss_cons (ps_if (PW.pt (pw_or (pt_not (pt_val (pe_callB call_isiT (by rfl) T.isinstance (by decide +kernel) (pa_cons (pv 0) (pa_cons (pe_tup (pa_cons (pe_bltn (v := .ty "list") (by rfl) T.list (by decide +kernel) rfl) (pa_cons (pe_bltn (v := .ty "tuple") (by rfl) T.tuple (by decide +kernel) rfl) pa_nil))) pa_nil))))) (pw_or1 (pt_not (pt_chain op_lt op_lt pe_int (pe_callB call_len (by rfl) T.len PySem.boot_len (pa_cons (pv 0) pa_nil)) pe_int)))))
        (pss_one (ps_ret pe_bl))
        pss_nil)
      (pss_one (ps_ret (pe_callB (cr_all rfl) (by rfl) T.all (by decide +kernel) (pa_cons (pe_lc (own := [("_law_one_here", 1)]) (g := gName 1) (tt := tYes) (by rfl) nd (pi_sq (pv 0))
  (blkOk_by (own := [("_law_one_here", 1)]) (N := nLAre) (sc := defScope sLAre) (by decide +kernel))
  (fun _ _ _ _ _ => pg_name (i := 1) nd rfl (Or.inl rfl) (Or.inr rfl)) (fun _ _ _ _ _ => pts_nil)
  (fun _ _ _ _ _ => (pe_callP PI hr (by rfl) (pa_cons (pv 1) pa_nil)))) pa_nil))))), ?_⟩
    refine ⟨_, rfl, (by show 2 ≤ sizeLine; decide), fun tp htp => ?_⟩
    have s1 := same_new (o := .tup [.ty "list", .ty "tuple"]) htp
    have e1 := upd_same (H := H) (a := tp) (o := .tup [.ty "list", .ty "tuple"])
    generalize upd H tp (.tup [.ty "list", .ty "tuple"]) = H1 at s1 e1 ⊢
    refine ⟨_, _, _, _, _, isLT d, rfl, e1, cls_all ["list", "tuple"], (ha.mono (Same.but (m := m) s1)).ty, kit_any (k_lt d), ?_⟩
    refine ⟨_, rfl, ?_⟩
    cases hlt : isLT d
    · refine iteT (iteT ?_)
      rw [← areScr_no hlt]
      exact k _ s1
    obtain ⟨ds, sq⟩ := isLT_sq hlt
    obtain ⟨p, us, rfl, np, hsq, hus⟩ := ax_sq ha sq
    have hlen := hus.length
    obtain ⟨hz, hz2⟩ := hsz ds sq
    have badl : ¬ (1 ≤ ds.length ∧ ds.length ≤ 4) → areScr d = false := fun h => by
      rw [areScr_sq sq]
      unfold scs1
      rw [decide_eq_false h]
      rfl
    refine iteF ?_
    refine ⟨_, rfl, _, _, rfl, (hsq.same s1).len, _, _, rfl, rfl, _, rfl, ?_⟩
    by_cases h1 : (0 : Int) < (us.length : Int)
    case neg =>
      rw [decide_eq_false h1]
      refine iteF ⟨_, rfl, ?_⟩
      refine iteT ?_
      rw [← badl (by omega)]
      exact k _ s1
    rw [decide_eq_true h1]
    refine iteT ⟨_, _, rfl, rfl, _, rfl, ?_⟩
    by_cases h4 : (us.length : Int) < 5
    case neg =>
      rw [decide_eq_false h4]
      refine iteT ?_
      rw [← badl (by omega)]
      exact k _ s1
    rw [decide_eq_true h4]
    refine iteF ?_
    have hall : areScr d = ds.all isScr := by
      rw [areScr_sq sq]
      unfold scs1
      rw [decide_eq_true (show 1 ≤ ds.length ∧ ds.length ≤ 4 by omega)]
      rfl
    refine isq (a := p) (us := us) (fun Q q => ⟨_, rfl, q⟩) (hsq.same s1) (fun J G W hG => fun Dl hD => ?_)
    refine lc_it W (fun i H2 => Same H1 H2 ∧ H2 Dl = some (.lst (((ds.take i).map isScr).map V.bl))) ?_ ?_ ?_ ?_
    · exact ⟨same_new hD, upd_same⟩
    · exact fun i H2 _ q => hG _ (fun _ e => q.1 _ _ e)
    · rintro i y H2 H3 hi ⟨s2, hl2⟩ ⟨rfl, ey⟩
      obtain ⟨dy, e1, ay⟩ := hus.get ey
      refine ⟨rfl, ?_⟩
      refine ⟨_, rfl, m, y, dy, rfl, ay.mono (Same.but (m := m) (Same.tr s1 s2)), hz2 dy (List.mem_of_getElem? e1), fun H4 s4 => ?_⟩
      refine ⟨_, s4 _ _ hl2, ?_, ?_, ?_⟩
      · rw [List.length_map, List.length_map, List.length_take]
        exact small6 (by omega)
      · intro b u e
        rw [upd_ne (ne_of_none e hD)]
        exact s4 _ _ (s2 _ _ e)
      · rw [upd_same, take_succ' e1, List.map_append, List.map_append]
        rfl
    · rintro H2 ⟨s2, hl2⟩
      rw [hlen, List.take_length] at hl2
      refine ⟨_, _, rfl, SqL.of hl2, ?_⟩
      have ea : ((ds.map isScr).all id) = areScr d := by
        rw [hall, List.all_map]
        rfl
      rw [ea]
      exact k _ (Same.tr s1 s2)
def spRow : Sp := fun vs H Q _ => ∃ (k : Bool) (m a : Addr) (us : List V) (y : V) (o : HO), vs = [.ref a, y] ∧ H m = some o ∧ SqK k H a us ∧ ∀ (b : Addr) (H' : Hp), b ≠ m → Same H H' → SqK k H' b [y] → Q (.ref b) H'
theorem pr_row (D : Df K mg "_law_row_of" sRow ["_law_like", "_law_thing"]) (T : Ty mg) : Pr P w K mg base 1 "_law_row_of" ["_law_like", "_law_thing"] spRow := by
  refine D.pr scRow (fun vs H Q E h => ?_) (fun f cdv A outer s H vs Q E hr h => ?_)
  · obtain ⟨kd, m, a, us, y, o, rfl, _⟩ := h
    rfl
  · obtain ⟨kd, m, a, us, y, o, rfl, hm, hq, k⟩ := h
    have nd := scRow.nd
    refine ⟨_, (pss_one (ps_ret (pe_ifExp (pt_val (pe_callB call_isi (by rfl) T.isinstance (by decide +kernel) (pa_cons (pv 0) (pa_cons (pe_bltn (v := .ty "list") (by rfl) T.list (by decide +kernel) rfl) pa_nil)))) (pe_lst (pa_cons (pv 1) pa_nil)) (pe_tup (pa_cons (pv 1) pa_nil))))), ?_⟩
    have nm : ∀ b, H b = none → b ≠ m := fun b hb z => by
      rw [z, hm] at hb
      cases hb
    cases kd
    · have hq : H a = some (.tup us) := hq
      refine ⟨_, rfl, _, _, _, _, false, rfl, .ty "list", .base (.tup hq), kit_ty k_tuple_list, ?_⟩
      refine ⟨_, rfl, iteF ?_⟩
      refine ⟨_, rfl, (by show 1 ≤ sizeLine; decide), fun b nb => ?_⟩
      exact k b _ (nm b nb) (same_new nb) upd_same
    · have hq : H a = some (.lst us) := hq
      refine ⟨_, rfl, _, _, _, _, true, rfl, .ty "list", .base (.lst hq), kit_ty k_list_list, ?_⟩
      refine ⟨_, rfl, iteT ?_⟩
      refine ⟨_, rfl, (by show 1 ≤ sizeLine; decide), fun b nb => ?_⟩
      exact k b _ (nm b nb) (same_new nb) upd_same
end
end C79

set_option Elab.async false
set_option maxRecDepth 100000
set_option maxHeartbeats 4000000
set_option linter.all false
namespace C79
open PySem L2 My M78
abbrev sBent : Stmt := top 53
abbrev nBent : List Str := ["_law_state", "_law_thing", "_law_way", "_law_at", "_law_one_here", "_law_place"]
theorem scBent : FnScope nBent ["_law_state", "_law_thing"] (defScope sBent) := ⟨rfl, rfl, rfl, by decide +kernel, rfl, by decide +kernel, by decide +kernel⟩

def allW2 : List Wd := [.beg, .imm, .exc, .com, .rol, .rea, .sta, .sto, .wri]
theorem cut_to {us : List V} {i : Nat} : cutV us none (some (i : Int)) = us.take i := by
  unfold cutV
  rw [HT.sIx_none, HT.sIx_nat, List.drop_zero, Nat.sub_zero]
  rcases Nat.le_total i us.length with h | h
  · rw [Nat.min_eq_left h]
  · rw [Nat.min_eq_right h, List.take_length, List.take_of_length_le h]
theorem cut_fr {us : List V} {i : Nat} : cutV us (some (i : Int)) none = us.drop i := by
  unfold cutV
  rw [HT.sIx_nat, HT.sIx_none]
  rw [List.take_of_length_le (by rw [List.length_drop]; exact Nat.le_refl _)]
  rcases Nat.le_total i us.length with h | h
  · rw [Nat.min_eq_left h]
  · rw [Nat.min_eq_right h, List.drop_length, List.drop_eq_nil_of_le h]
theorem SqK.same {k : Bool} {H H' : Hp} {a : Addr} {us : List V} (h : SqK k H a us) (s : Same H H') : SqK k H' a us := by
  cases k
  · exact s _ _ (show H a = some (.tup us) from h)
  · exact s _ _ (show H a = some (.lst us) from h)
theorem SqK.but {k : Bool} {H H' : Hp} {a m : Addr} {us : List V} (h : SqK k H a us) (n : a ≠ m) (s : But m H H') : SqK k H' a us := by
  cases k
  · exact s _ _ (show H a = some (.tup us) from h) n
  · exact s _ _ (show H a = some (.lst us) from h) n
theorem SqK.len {k : Bool} {K : PySem.W.Frag} {H : Hp} {a : Addr} {us : List V} (h : SqK k H a us) : LenV K (.ref a) H us.length := by
  cases k
  · exact .inr ⟨_, SqT.of (show H a = some (.tup us) from h), rfl⟩
  · exact .inl ⟨_, SqL.of (show H a = some (.lst us) from h), rfl⟩
/-- what data a list or a tuple of these is -/
def kD (k : Bool) (ds : List PyData) : PyData := if k = true then .list ds else .tuple ds
theorem SqK.ax {k : Bool} {m : Addr} {H : Hp} {a : Addr} {us : List V} {ds : List PyData} (h : SqK k H a us) (n : a ≠ m) (q : AxAll m H us ds) : Ax m H (.ref a) (kD k ds) := by
  cases k
  · exact .tup n h q
  · exact .lst n h q
theorem kD_sq (k : Bool) (ds : List PyData) : Sq2 (kD k ds) ds := by
  cases k
  · exact .inr rfl
  · exact .inl rfl
section
variable {K : PySem.W.Frag} {k : Bool} {m : Addr} {o : HO} {H : Hp}
theorem ne_m {b : Addr} (hm : H m = some o) (hb : H b = none) : b ≠ m := fun z => by
  rw [z, hm] at hb
  cases hb
theorem sl_q {a : Addr} {us : List V} {lo hi : Option Int} {Q : VK} (h : SqK k H a us) (n : a ≠ m) (hm : H m = some o) (q : ∀ b H', b ≠ m → Same H H' → SqK k H' b (cutV us lo hi) → Q (.ref b) H') : rSlL K (.ref a) lo hi H Q ∨ rSlA K (.ref a) lo hi H Q := by
  cases k
  · have h : H a = some (.tup us) := h
    refine .inr ⟨a, us, rfl, SqT.of h, fun w => ?_, fun _ p np => q p _ (ne_m hm np) (same_new np) upd_same⟩
    refine q a H n (fun _ _ e => e) ?_
    have : cutV us lo hi = us := by
      unfold cutV
      rw [w.1, w.2, List.drop_zero, Nat.sub_zero, List.take_length]
    rw [this]
    exact h
  · have h : H a = some (.lst us) := h
    exact .inl ⟨a, us, rfl, SqL.of h, fun p np => q p _ (ne_m hm np) (same_new np) upd_same⟩
theorem cat_q {a b : Addr} {us ws : List V} {Q : VK} (h1 : SqK k H a us) (h2 : SqK k H b ws) (n1 : a ≠ m) (n2 : b ≠ m) (hm : H m = some o) (hz : us.length + ws.length ≤ 1000) (q : ∀ c H', c ≠ m → Same H H' → SqK k H' c (us ++ ws) → Q (.ref c) H') : rCat (.ref a) (.ref b) H Q ∨ rCatA K (.ref a) (.ref b) H Q := by
  have z : us.length + ws.length ≤ sizeLine := Nat.le_of_lt (small6 (by omega))
  cases k
  · exact .inr (cat_any (m := m) h1 h2 n1 n2 hm z fun p H' np s e => q p H' np s e)
  · exact .inl ⟨a, b, us, ws, rfl, rfl, h1, h2, z, fun p np => q p _ (ne_m hm np) (same_new np) upd_same⟩
theorem rev_q {a : Addr} {us : List V} {i : Nat} {σ : L2.St} {Q : VK} (hi : σ[i]? = some (some (.ref a))) (h : SqK k H a us) (hm : H m = some o) (q : ∀ b H', b ≠ m → Same H H' → SqK k H' b us.reverse → Q (.ref b) H') : tRevL K (tVar i) σ H Q ∨ tRevT K (tVar i) σ H Q := by
  cases k
  · have h : H a = some (.tup us) := h
    exact .inr ⟨_, hi, a, us, rfl, SqT.of h, fun p np => q p _ (ne_m hm np) (same_new np) upd_same⟩
  · have h : H a = some (.lst us) := h
    exact .inl ⟨_, hi, a, us, rfl, SqL.of h, fun p np => q p _ (ne_m hm np) (same_new np) upd_same⟩
end
section
variable {P : Program} {w : World} {K : PySem.W.Frag} {mg : Str → Option Value} {base : Heap}

def spOddX : Sp := fun vs H Q _ => ∃ (st c : Addr) (ns : List Int), vs = [.ref st] ∧ Drw H st c ns ∧ ns.length ≤ 63 ∧ ∀ (x : V) (d : PyData) (H' : Hp), d ∈ oddL → Ax st H' x d → Drw H' st c ns → But st H H' → Q x H'
theorem pr_oddX (D : Df K mg "_law_odd" sOdd ["_law_state"]) (T : Tx mg) (PT : Pr P w K mg base 2 "_law_take" ["_law_state", "_law_many"] spTake) : Pr P w K mg base 3 "_law_odd" ["_law_state"] spOddX := by
  refine D.pr scOdd (fun vs H Q E h => ?_) (fun f cdv A outer s H vs Q E hr h => ?_)
  · obtain ⟨st, c, ns, rfl, _⟩ := h
    rfl
  · obtain ⟨st, c, ns, rfl, dr, hns, k⟩ := h
    have nd := scOdd.nd
    refine ⟨_, (pss_cons (ps_asg (pe_lst (pa_cons pe_non (pa_cons pe_bl (pa_cons pe_bl (pa_cons pe_int (pa_cons pe_int (pa_cons (pe_un un_neg pe_int) (pa_cons (pe_op op_pow pe_int pe_int) (pa_cons pe_str (pa_cons pe_str (pa_cons pe_str (pa_cons pe_str (pa_cons pe_str (pa_cons (pe_lst pa_nil) (pa_cons (pe_tup pa_nil) (pa_cons pe_dnewK (pa_cons (pe_disp (pps_cons pe_str pe_int pps_nil) (by rfl) (by rfl) (fun z => by cases z) (by decide)) pa_nil))))))))))))))))) (pg_name (i := 1) nd rfl (Or.inl rfl)))
      (pss_cons (ps_asg (pe_op op_cat (pv 1) (pe_lst (pa_cons (pe_tup (pa_cons pe_str pa_nil)) (pa_cons (pe_lst (pa_cons (pe_lst (pa_cons pe_str pa_nil)) pa_nil)) (pa_cons (pe_tup (pa_cons pe_non pa_nil)) (pa_cons (pe_lst (pa_cons pe_int pa_nil)) (pa_cons (pe_tup (pa_cons pe_bl pa_nil)) (pa_cons (pe_tup (pa_cons (pe_tup (pa_cons pe_int (pa_cons pe_bl (pa_cons pe_bl (pa_cons pe_int pa_nil))))) pa_nil)) (pa_cons (pe_lst (pa_cons (pe_lst (pa_cons pe_int (pa_cons pe_bl (pa_cons pe_bl (pa_cons pe_int pa_nil))))) pa_nil)) pa_nil))))))))) (pg_name (i := 1) nd rfl (Or.inl rfl)))
      (pss_one (ps_ret (pe_ix ix_list (pv 1) (pe_callP PT hr (by rfl) (pa_cons (pv 0) (pa_cons (pe_callB call_len (by rfl) T.len PySem.boot_len (pa_cons (pv 1) pa_nil)) pa_nil))) (fun _ _ => rfl)))))), ?_⟩
    refine ⟨_, rfl, _, _, rfl, rfl, ⟨by decide, by decide, by decide⟩, (by show 0 ≤ sizeLine; decide), fun a1 na1 => ?_⟩
    generalize ha1 : upd H a1 _ = G1
    have sa1 : Same H G1 := ha1 ▸ Same.new na1
    have ea1 : G1 a1 = some (.lst []) := ha1 ▸ upd_same
    clear ha1
    refine ⟨(by show 0 ≤ sizeLine; decide), fun a2 na2 => ?_⟩
    generalize ha2 : upd G1 a2 _ = G2
    have sa2 : Same G1 G2 := ha2 ▸ Same.new na2
    have ea2 : G2 a2 = some (.tup []) := ha2 ▸ upd_same
    clear ha2
    refine fun a3 na3 => ?_
    generalize ha3 : upd G2 a3 _ = G3
    have sa3 : Same G2 G3 := ha3 ▸ Same.new na3
    have ea3 : G3 a3 = some (.dK (dkV [])) := ha3 ▸ upd_same
    clear ha3
    refine fun a4 na4 => ?_
    refine ⟨upd_same, dkV [("begin", 1)], rfl, (by show 1 ≤ 15; decide), ?_⟩
    have sa4 : Same G3 (upd (upd G3 a4 (.dK [])) a4 (.dK (mergeK [] (dkV [("begin", 1)])))) := fun b u e => by
      rw [upd_ne (ne_of_none e na4), upd_ne (ne_of_none e na4)]
      exact e
    have ea4 : upd (upd G3 a4 (.dK [])) a4 (.dK (mergeK [] (dkV [("begin", 1)]))) a4 = some (.dK (dkV [("begin", 1)])) := upd_same
    generalize upd (upd G3 a4 (.dK [])) a4 (.dK (mergeK [] (dkV [("begin", 1)]))) = G4 at sa4 ea4 ⊢
    refine ⟨(by show 16 ≤ sizeLine; decide), fun L1 nL1 => ?_⟩
    generalize hL1 : upd G4 L1 _ = G5
    have sL1 : Same G4 G5 := hL1 ▸ Same.new nL1
    have eL1 : G5 L1 = some (.lst [.non, .bl true, .bl false, .int 0, .int 1, .int (-1), .int (2 ^ (40 : Int).toNat), .str "", .str "begin", .str "reads", .str "BEGIN", .str "write ", .ref a1, .ref a2, .ref a3, .ref a4]) := hL1 ▸ upd_same
    clear hL1
    refine ⟨_, rfl, (by show 1 ≤ sizeLine; decide), fun b1 nb1 => ?_⟩
    generalize hb1 : upd G5 b1 _ = G6
    have sb1 : Same G5 G6 := hb1 ▸ Same.new nb1
    have eb1 : G6 b1 = some (.tup [.str "begin"]) := hb1 ▸ upd_same
    clear hb1
    refine ⟨(by show 1 ≤ sizeLine; decide), fun b2 nb2 => ?_⟩
    generalize hb2 : upd G6 b2 _ = G7
    have sb2 : Same G6 G7 := hb2 ▸ Same.new nb2
    have eb2 : G7 b2 = some (.lst [.str "read"]) := hb2 ▸ upd_same
    clear hb2
    refine ⟨(by show 1 ≤ sizeLine; decide), fun b3 nb3 => ?_⟩
    generalize hb3 : upd G7 b3 _ = G8
    have sb3 : Same G7 G8 := hb3 ▸ Same.new nb3
    have eb3 : G8 b3 = some (.lst [.ref b2]) := hb3 ▸ upd_same
    clear hb3
    refine ⟨(by show 1 ≤ sizeLine; decide), fun b4 nb4 => ?_⟩
    generalize hb4 : upd G8 b4 _ = G9
    have sb4 : Same G8 G9 := hb4 ▸ Same.new nb4
    have eb4 : G9 b4 = some (.tup [.non]) := hb4 ▸ upd_same
    clear hb4
    refine ⟨(by show 1 ≤ sizeLine; decide), fun b5 nb5 => ?_⟩
    generalize hb5 : upd G9 b5 _ = G10
    have sb5 : Same G9 G10 := hb5 ▸ Same.new nb5
    have eb5 : G10 b5 = some (.lst [.int 0]) := hb5 ▸ upd_same
    clear hb5
    refine ⟨(by show 1 ≤ sizeLine; decide), fun b6 nb6 => ?_⟩
    generalize hb6 : upd G10 b6 _ = G11
    have sb6 : Same G10 G11 := hb6 ▸ Same.new nb6
    have eb6 : G11 b6 = some (.tup [.bl true]) := hb6 ▸ upd_same
    clear hb6
    refine ⟨(by show 4 ≤ sizeLine; decide), fun b7 nb7 => ?_⟩
    generalize hb7 : upd G11 b7 _ = G12
    have sb7 : Same G11 G12 := hb7 ▸ Same.new nb7
    have eb7 : G12 b7 = some (.tup [.int 0, .bl false, .bl false, .int 0]) := hb7 ▸ upd_same
    clear hb7
    refine ⟨(by show 1 ≤ sizeLine; decide), fun b8 nb8 => ?_⟩
    generalize hb8 : upd G12 b8 _ = G13
    have sb8 : Same G12 G13 := hb8 ▸ Same.new nb8
    have eb8 : G13 b8 = some (.tup [.ref b7]) := hb8 ▸ upd_same
    clear hb8
    refine ⟨(by show 4 ≤ sizeLine; decide), fun b9 nb9 => ?_⟩
    generalize hb9 : upd G13 b9 _ = G14
    have sb9 : Same G13 G14 := hb9 ▸ Same.new nb9
    have eb9 : G14 b9 = some (.lst [.int 0, .bl false, .bl false, .int 0]) := hb9 ▸ upd_same
    clear hb9
    refine ⟨(by show 1 ≤ sizeLine; decide), fun bA nbA => ?_⟩
    generalize hbA : upd G14 bA _ = G15
    have sbA : Same G14 G15 := hbA ▸ Same.new nbA
    have ebA : G15 bA = some (.lst [.ref b9]) := hbA ▸ upd_same
    clear hbA
    refine ⟨(by show 7 ≤ sizeLine; decide), fun L2 nL2 => ?_⟩
    generalize hL2 : upd G15 L2 _ = G16
    have sL2 : Same G15 G16 := hL2 ▸ Same.new nL2
    have eL2 : G16 L2 = some (.lst [.ref b1, .ref b3, .ref b4, .ref b5, .ref b6, .ref b8, .ref bA]) := hL2 ▸ upd_same
    clear hL2
    have q15 : Same G15 G16 := sL2
    have q14 : Same G14 G16 := Same.tr sbA q15
    have q13 : Same G13 G16 := Same.tr sb9 q14
    have q12 : Same G12 G16 := Same.tr sb8 q13
    have q11 : Same G11 G16 := Same.tr sb7 q12
    have q10 : Same G10 G16 := Same.tr sb6 q11
    have q9 : Same G9 G16 := Same.tr sb5 q10
    have q8 : Same G8 G16 := Same.tr sb4 q9
    have q7 : Same G7 G16 := Same.tr sb3 q8
    have q6 : Same G6 G16 := Same.tr sb2 q7
    have q5 : Same G5 G16 := Same.tr sb1 q6
    have q4 : Same G4 G16 := Same.tr sL1 q5
    have q3 : Same G3 G16 := Same.tr sa4 q4
    have q2 : Same G2 G16 := Same.tr sa3 q3
    have q1 : Same G1 G16 := Same.tr sa2 q2
    have q0 : Same H G16 := Same.tr sa1 q1
    have z1 : Same H G1 := sa1
    have z2 : Same H G2 := Same.tr z1 sa2
    have z3 : Same H G3 := Same.tr z2 sa3
    have z4 : Same H G4 := Same.tr z3 sa4
    have z5 : Same H G5 := Same.tr z4 sL1
    have z6 : Same H G6 := Same.tr z5 sb1
    have z7 : Same H G7 := Same.tr z6 sb2
    have z8 : Same H G8 := Same.tr z7 sb3
    have z9 : Same H G9 := Same.tr z8 sb4
    have z10 : Same H G10 := Same.tr z9 sb5
    have z11 : Same H G11 := Same.tr z10 sb6
    have z12 : Same H G12 := Same.tr z11 sb7
    have z13 : Same H G13 := Same.tr z12 sb8
    have z14 : Same H G14 := Same.tr z13 sb9
    have z15 : Same H G15 := Same.tr z14 sbA
    have nst0 : ∀ b, H b = none → b ≠ st := fun b h => dr.nst h
    have nst1 : ∀ b, G1 b = none → b ≠ st := fun b h => dr.nst (Same.free z1 h)
    have nst2 : ∀ b, G2 b = none → b ≠ st := fun b h => dr.nst (Same.free z2 h)
    have nst3 : ∀ b, G3 b = none → b ≠ st := fun b h => dr.nst (Same.free z3 h)
    have nst4 : ∀ b, G4 b = none → b ≠ st := fun b h => dr.nst (Same.free z4 h)
    have nst5 : ∀ b, G5 b = none → b ≠ st := fun b h => dr.nst (Same.free z5 h)
    have nst6 : ∀ b, G6 b = none → b ≠ st := fun b h => dr.nst (Same.free z6 h)
    have nst7 : ∀ b, G7 b = none → b ≠ st := fun b h => dr.nst (Same.free z7 h)
    have nst8 : ∀ b, G8 b = none → b ≠ st := fun b h => dr.nst (Same.free z8 h)
    have nst9 : ∀ b, G9 b = none → b ≠ st := fun b h => dr.nst (Same.free z9 h)
    have nst10 : ∀ b, G10 b = none → b ≠ st := fun b h => dr.nst (Same.free z10 h)
    have nst11 : ∀ b, G11 b = none → b ≠ st := fun b h => dr.nst (Same.free z11 h)
    have nst12 : ∀ b, G12 b = none → b ≠ st := fun b h => dr.nst (Same.free z12 h)
    have nst13 : ∀ b, G13 b = none → b ≠ st := fun b h => dr.nst (Same.free z13 h)
    have nst14 : ∀ b, G14 b = none → b ≠ st := fun b h => dr.nst (Same.free z14 h)
    have nst15 : ∀ b, G15 b = none → b ≠ st := fun b h => dr.nst (Same.free z15 h)
    have all : AxAll st G16 ([.non, .bl true, .bl false, .int 0, .int 1, .int (-1), .int (2 ^ (40 : Int).toNat), .str "", .str "begin", .str "reads", .str "BEGIN", .str "write ", .ref a1, .ref a2, .ref a3, .ref a4] ++ [.ref b1, .ref b3, .ref b4, .ref b5, .ref b6, .ref b8, .ref bA]) oddL := .cons (.non) (.cons (.bl _) (.cons (.bl _) (.cons (.int _) (.cons (.int _) (.cons (.int _) (.cons (.int _) (.cons (.str _) (.cons (.str _) (.cons (.str _) (.cons (.str _) (.cons (.str _) (.cons (.lst (nst0 _ na1) (q1 _ _ ea1) (.nil)) (.cons (.tup (nst1 _ na2) (q2 _ _ ea2) (.nil)) (.cons (.dic (kvs := []) (nst2 _ na3) (q3 _ _ ea3)) (.cons (.dic (kvs := [("begin", 1)]) (nst3 _ na4) (q4 _ _ ea4)) (.cons (.tup (nst5 _ nb1) (q6 _ _ eb1) (.cons (.str _) .nil)) (.cons (.lst (nst7 _ nb3) (q8 _ _ eb3) (.cons (.lst (nst6 _ nb2) (q7 _ _ eb2) (.cons (.str _) .nil)) .nil)) (.cons (.tup (nst8 _ nb4) (q9 _ _ eb4) (.cons .non .nil)) (.cons (.lst (nst9 _ nb5) (q10 _ _ eb5) (.cons (.int _) .nil)) (.cons (.tup (nst10 _ nb6) (q11 _ _ eb6) (.cons (.bl _) .nil)) (.cons (.tup (nst12 _ nb8) (q13 _ _ eb8) (.cons (.tup (nst11 _ nb7) (q12 _ _ eb7) (.cons (.int _) (.cons (.bl _) (.cons (.bl _) (.cons (.int _) .nil))))) .nil)) (.cons (.lst (nst14 _ nbA) (q15 _ _ ebA) (.cons (.lst (nst13 _ nb9) (q14 _ _ eb9) (.cons (.int _) (.cons (.bl _) (.cons (.bl _) (.cons (.int _) .nil))))) .nil)) (.nil)))))))))))))))))))))))
    refine ⟨L1, L2, _, _, rfl, rfl, (q5 _ _ eL1), eL2, (by show 23 ≤ sizeLine; decide), fun C nC => ?_⟩
    have sC := same_new (o := .lst ([.non, .bl true, .bl false, .int 0, .int 1, .int (-1), .int (2 ^ (40 : Int).toNat), .str "", .str "begin", .str "reads", .str "BEGIN", .str "write ", .ref a1, .ref a2, .ref a3, .ref a4] ++ [.ref b1, .ref b3, .ref b4, .ref b5, .ref b6, .ref b8, .ref bA])) nC
    have eC := upd_same (H := G16) (a := C) (o := .lst ([.non, .bl true, .bl false, .int 0, .int 1, .int (-1), .int (2 ^ (40 : Int).toNat), .str "", .str "begin", .str "reads", .str "BEGIN", .str "write ", .ref a1, .ref a2, .ref a3, .ref a4] ++ [.ref b1, .ref b3, .ref b4, .ref b5, .ref b6, .ref b8, .ref bA]))
    generalize upd G16 C (.lst ([.non, .bl true, .bl false, .int 0, .int 1, .int (-1), .int (2 ^ (40 : Int).toNat), .str "", .str "begin", .str "reads", .str "BEGIN", .str "write ", .ref a1, .ref a2, .ref a3, .ref a4] ++ [.ref b1, .ref b3, .ref b4, .ref b5, .ref b6, .ref b8, .ref bA])) = G at sC eC ⊢
    have s0 := Same.tr q0 sC
    have nCs : C ≠ st := dr.nst (Same.free q0 nC)
    refine ⟨_, rfl, _, rfl, _, rfl, _, _, rfl, (Or.inl ⟨_, SqL.of eC, rfl⟩), st, c, ns, 23, rfl, dr.same s0, hns, (by decide), (by decide), fun i G' i0 i1 dr' bt => ?_⟩
    obtain ⟨j, rfl⟩ := Int.eq_ofNat_of_zero_le i0
    have hj : j < 23 := by omega
    obtain ⟨x, hx⟩ : ∃ x, ([.non, .bl true, .bl false, .int 0, .int 1, .int (-1), .int (2 ^ (40 : Int).toNat), .str "", .str "begin", .str "reads", .str "BEGIN", .str "write ", .ref a1, .ref a2, .ref a3, .ref a4] ++ [.ref b1, .ref b3, .ref b4, .ref b5, .ref b6, .ref b8, .ref bA] : List V)[j]? = some x := ⟨_, List.getElem?_eq_getElem hj⟩
    obtain ⟨d, hd, ad⟩ := (all.mono ((Same.but (m := st) sC).trans bt)).get hx
    exact ⟨C, _, _, x, rfl, rfl, SqL.of (bt _ _ eC nCs), atI_nat hx, k x d G' (List.mem_of_getElem? hd) ad dr' ((Same.but s0).trans bt)⟩
def spWordX : Sp := fun vs H Q _ => ∃ (st c : Addr) (ns : List Int), vs = [.ref st] ∧ Drw H st c ns ∧ ns.length ≤ 63 ∧ ∀ (x : V) (d : PyData) (H' : Hp), w1b d = true → Ax st H' x d → Drw H' st c ns → But st H H' → Q x H'
theorem pr_wordX (D : Df K mg "_law_word" sWord ["_law_state"]) (PT : Pr P w K mg base 2 "_law_take" ["_law_state", "_law_many"] spTake) (PO : Pr P w K mg base 3 "_law_odd" ["_law_state"] spOddX) : Pr P w K mg base 4 "_law_word" ["_law_state"] spWordX := by
  refine D.pr scWord (fun vs H Q E h => ?_) (fun f cdv A outer s H vs Q E hr h => ?_)
  · obtain ⟨st, c, ns, rfl, _⟩ := h
    rfl
  · obtain ⟨st, c, ns, rfl, dr, hns, k⟩ := h
    have nd := scWord.nd
    have hr2 := hr.mono (show 2 ≤ 3 by decide)
    refine ⟨_, (pss_cons (ps_asg (pe_tup (pa_cons pe_str (pa_cons pe_str (pa_cons pe_str (pa_cons pe_str (pa_cons pe_str (pa_cons pe_str (pa_cons pe_str (pa_cons pe_str (pa_cons pe_str pa_nil)))))))))) (pg_name (i := 1) nd rfl (Or.inl rfl)))
      (pss_one (ps_ret (pe_ifExp (pt_cmpR op_eq (pe_callP PT hr2 (by rfl) (pa_cons (pv 0) (pa_cons pe_int pa_nil))) pe_int (nomark _)) (pe_callP PO hr (by rfl) (pa_cons (pv 0) pa_nil)) (pe_ix ix_tup (pv 1) (pe_callP PT hr2 (by rfl) (pa_cons (pv 0) (pa_cons pe_int pa_nil))) (fun _ _ => rfl)))))), ?_⟩
    refine ⟨(by show 9 ≤ sizeLine; decide), fun W nW => ?_⟩
    generalize hW : upd H W _ = H1
    have sW : Same H H1 := hW ▸ Same.new nW
    have eW : H1 W = some (.tup (wV allW2)) := hW ▸ upd_same
    clear hW
    have nWs : W ≠ st := dr.nst nW
    refine ⟨_, rfl, st, c, ns, 4, rfl, dr.same sW, hns, (by decide), (by decide), fun z H2 z0 z1 dr2 b2 => ?_⟩
    refine ⟨rfl, _, rfl, ?_⟩
    cases decide (V.int z = V.int 0)
    · refine iteF ?_
      refine ⟨_, rfl, _, rfl, st, c, ns, 9, rfl, dr2, hns, (by decide), (by decide), fun i H3 i0 i1 dr3 b3 => ?_⟩
      obtain ⟨j, rfl⟩ := Int.eq_ofNat_of_zero_le i0
      have hj : j < allW2.length := by
        show j < 9
        omega
      refine ⟨W, wV allW2, _, .str (wS allW2[j]), rfl, rfl, SqT.of (b3 _ _ (b2 _ _ eW nWs) nWs), atI_nat (by unfold wV; rw [List.getElem?_map, List.getElem?_eq_getElem hj]; rfl), ?_⟩
      exact k _ _ H3 (word_w _) (.str _) dr3 (((Same.but sW).trans b2).trans b3)
    · refine iteT ?_
      refine ⟨_, rfl, st, c, ns, rfl, dr2, hns, fun x d H3 hd ax dr3 b3 => ?_⟩
      exact k x d H3 (odd_w hd).1 ax dr3 (((Same.but sW).trans b2).trans b3)

end
end C79

set_option Elab.async false
set_option maxRecDepth 100000
set_option maxHeartbeats 4000000
set_option linter.all false
namespace C79
open PySem L2 My M78
section
variable {P : Program} {w : World} {K : PySem.W.Frag} {mg : Str → Option Value} {base : Heap}
theorem ix_q {K : PySem.W.Frag} {k : Bool} {H : Hp} {a : Addr} {us : List V} {j : Nat} {v : V} {Q : VK} (h : SqK k H a us) (e : us[j]? = some v) (q : Q v H) : rIx K (.ref a) (.int (j : Int)) H Q := by
  cases k
  · exact .inr (.inl ⟨a, us, _, v, rfl, rfl, SqT.of (show H a = some (.tup us) from h), atI_nat e, q⟩)
  · exact .inl ⟨a, us, _, v, rfl, rfl, SqL.of (show H a = some (.lst us) from h), atI_nat e, q⟩
theorem cut_fr1 {us : List V} {i : Nat} : cutV us (some ((i : Int) + 1)) none = us.drop (i + 1) := by
  rw [show ((i : Int) + 1) = ((i + 1 : Nat) : Int) by omega]
  exact cut_fr
theorem z2_mk {n : Nat} {k : Bool} {ds : List PyData} (h : ds.length ≤ 5) (q : ∀ x ∈ ds, z1b n x = true) : z2b n (kD k ds) = true := by
  rw [z2_sq (kD_sq k ds), Bool.and_eq_true_iff]
  exact ⟨decide_eq_true h, List.all_eq_true.mpr q⟩
theorem z1_mk {n : Nat} {k : Bool} {ds : List PyData} (h : ds.length ≤ n) (q : ∀ x ∈ ds, w1b x = true) : z1b n (kD k ds) = true := by
  rw [z1_sq (kD_sq k ds), Bool.and_eq_true_iff]
  exact ⟨decide_eq_true h, List.all_eq_true.mpr q⟩
def spBent : Sp := fun vs H Q _ => ∃ (st c : Addr) (ns : List Int) (x : V) (d : PyData) (n : Nat), vs = [.ref st, x] ∧ Drw H st c ns ∧ ns.length ≤ 63 ∧ Ax st H x d ∧ z2b n d = true ∧ 9 ≤ n ∧ n ≤ 30 ∧
  ∀ (y : V) (d' : PyData) (H' : Hp), Ax st H' y d' → z2b (n + 1) d' = true → Drw H' st c ns → But st H H' → Q y H'
theorem pr_bent (D : Df K mg "_law_bent" sBent ["_law_state", "_law_thing"]) (T : Ty mg) (PT : Pr P w K mg base 2 "_law_take" ["_law_state", "_law_many"] spTake) (PO : Pr P w K mg base 3 "_law_odd" ["_law_state"] spOddX) (PWd : Pr P w K mg base 4 "_law_word" ["_law_state"] spWordX) (PRw : Pr P w K mg base 1 "_law_row_of" ["_law_like", "_law_thing"] spRow) :
    Pr P w K mg base 5 "_law_bent" ["_law_state", "_law_thing"] spBent := by
  refine D.pr scBent (fun vs H Q E h => ?_) (fun f cdv A outer s H vs Q E hr h => ?_)
  · obtain ⟨st, c, ns, x, d, n, rfl, _⟩ := h
    rfl
  · obtain ⟨st, c, ns, x, d, n, rfl, dr, hns, ax, hz, n9, n30, k⟩ := h
    have nd := scBent.nd
    have hr1 := hr.mono (show 1 ≤ 4 by decide)
    have hr2 := hr.mono (show 2 ≤ 4 by decide)
    have hr3 := hr.mono (show 3 ≤ 4 by decide)
    refine ⟨_, (pss_cons (ps_asg (pe_callP PT hr2 (by rfl) (pa_cons (pv 0) (pa_cons pe_int pa_nil))) (pg_name (i := 2) nd rfl (Or.inl rfl)))
      (pss_cons (ps_if (PW.pt (pw_or (pt_cmpR op_eq (pv 2) pe_int (nomark _)) (pw_or (pt_not (pt_val (pe_callB call_isiT (by rfl) T.isinstance (by decide +kernel) (pa_cons (pv 1) (pa_cons (pe_tup (pa_cons (pe_bltn (v := .ty "list") (by rfl) T.list (by decide +kernel) rfl) (pa_cons (pe_bltn (v := .ty "tuple") (by rfl) T.tuple (by decide +kernel) rfl) pa_nil))) pa_nil))))) (pw_or1 (pt_cmpR op_eq (pe_callB call_len (by rfl) T.len PySem.boot_len (pa_cons (pv 1) pa_nil)) pe_int (nomark _))))))
        (pss_one (ps_ret (pe_callP PO hr3 (by rfl) (pa_cons (pv 0) pa_nil))))
        pss_nil)
      (pss_cons (ps_asg (pe_callP PT hr2 (by rfl) (pa_cons (pv 0) (pa_cons (pe_callB call_len (by rfl) T.len PySem.boot_len (pa_cons (pv 1) pa_nil)) pa_nil))) (pg_name (i := 3) nd rfl (Or.inl rfl)))
      (pss_cons (ps_asg (pe_ix ix_seq (pv 1) (pv 3) (fun _ _ => rfl)) (pg_name (i := 4) nd rfl (Or.inl rfl)))
      (pss_cons (ps_if (pt_cmpR op_eq (pv 2) pe_int (nomark _))
        (pss_one (ps_ret (pe_op (op_or op_cat op_catA) (pe_slice (sl_or sl_list sl_tupA) (pv 1) po_none (po_some (pv 3))) (pe_slice (sl_or sl_list sl_tupA) (pv 1) (po_some (pe_op op_add (pv 3) pe_int)) po_none))))
        pss_nil)
      (pss_cons (ps_if (pt_cmpR op_eq (pv 2) pe_int (nomark _))
        (pss_one (ps_ret (pe_slice (sl_or sl_list sl_tupA) (pe_op (op_or op_cat op_catA) (pe_op (op_or op_cat op_catA) (pv 1) (pv 1)) (pv 1)) po_none (po_some pe_int))))
        pss_nil)
      (pss_cons (ps_if (PW.pt (pw_or (pt_cmpR op_eq (pv 2) pe_int (nomark _)) (pw_or1 (pt_not (pt_val (pe_callB call_isiT (by rfl) T.isinstance (by decide +kernel) (pa_cons (pv 4) (pa_cons (pe_tup (pa_cons (pe_bltn (v := .ty "list") (by rfl) T.list (by decide +kernel) rfl) (pa_cons (pe_bltn (v := .ty "tuple") (by rfl) T.tuple (by decide +kernel) rfl) pa_nil))) pa_nil))))))))
        (pss_one (ps_ret (pe_op (op_or op_cat op_catA) (pe_op (op_or op_cat op_catA) (pe_slice (sl_or sl_list sl_tupA) (pv 1) po_none (po_some (pv 3))) (pe_callP PRw hr1 (by rfl) (pa_cons (pv 1) (pa_cons (pe_callP PO hr3 (by rfl) (pa_cons (pv 0) pa_nil)) pa_nil)))) (pe_slice (sl_or sl_list sl_tupA) (pv 1) (po_some (pe_op op_add (pv 3) pe_int)) po_none))))
        pss_nil)
      (pss_cons (ps_asg (pe_callP PT hr2 (by rfl) (pa_cons (pv 0) (pa_cons (pe_op op_add (pe_callB call_len (by rfl) T.len PySem.boot_len (pa_cons (pv 4) pa_nil)) pe_int) pa_nil))) (pg_name (i := 5) nd rfl (Or.inl rfl)))
      (Evl.pss_cut (ps_if (pt_cmpR op_lt (pv 2) pe_int (nomark _))
        (pss_one (ps_asg (pe_op (op_or op_cat op_catA) (pe_op (op_or op_cat op_catA) (pe_slice (sl_or sl_list sl_tupA) (pv 4) po_none (po_some (pv 5))) (pe_callP PRw hr1 (by rfl) (pa_cons (pv 4) (pa_cons (pe_callP PWd hr (by rfl) (pa_cons (pv 0) pa_nil)) pa_nil)))) (pe_slice (sl_or sl_list sl_tupA) (pv 4) (po_some (pe_op op_sub (pe_op op_add (pv 5) (pv 2)) pe_int)) po_none)) (pg_name (i := 4) nd rfl (Or.inl rfl))))
        (pss_one (ps_if (pt_cmpR op_eq (pv 2) pe_int (nomark _))
          (pss_one (ps_asg (pe_op (op_or op_cat op_catA) (pe_slice (sl_or sl_list sl_tupA) (pv 4) po_none (po_some (pv 5))) (pe_slice (sl_or sl_list sl_tupA) (pv 4) (po_some (pe_op op_add (pv 5) pe_int)) po_none)) (pg_name (i := 4) nd rfl (Or.inl rfl))))
          (pss_one (ps_if (pt_cmpR op_eq (pv 2) pe_int (nomark _))
            (pss_one (ps_asg (pe_slice (sl_or sl_list sl_tupA) (pe_op (op_or op_cat op_catA) (pe_op (op_or op_cat op_catA) (pv 4) (pv 4)) (pv 4)) po_none (po_some pe_int)) (pg_name (i := 4) nd rfl (Or.inl rfl))))
            (pss_one (ps_asg (pe_or2 (pe_revL (pv 4)) (pe_revT (pv 4))) (pg_name (i := 4) nd rfl (Or.inl rfl)))))))))
      (pss_one (ps_ret (pe_op (op_or op_cat op_catA) (pe_op (op_or op_cat op_catA) (pe_slice (sl_or sl_list sl_tupA) (pv 1) po_none (po_some (pv 3))) (pe_callP PRw hr1 (by rfl) (pa_cons (pv 1) (pa_cons (pv 4) pa_nil)))) (pe_slice (sl_or sl_list sl_tupA) (pv 1) (po_some (pe_op op_add (pv 3) pe_int)) po_none))))))))))))), ?_⟩
    have od : ∀ (Hx : Hp) (E' : XK), But st H Hx → Drw Hx st c ns → spOddX [.ref st] Hx Q E' := fun Hx E' bx dx =>
      ⟨st, c, ns, rfl, dx, hns, fun y d' H' hd ay dr' bt => k y d' H' ay (z2_mono (by omega) (odd_w hd).2.2) dr' (bx.trans bt)⟩
    refine ⟨_, rfl, st, c, ns, 9, rfl, dr, hns, (by decide), (by decide), fun wy H1 w0 w9 dr1 b1 => ?_⟩
    -- another object
    refine ⟨_, rfl, rfl, _, rfl, ?_⟩
    by_cases hw0 : V.int wy = V.int 0
    · rw [decide_eq_true hw0]
      refine iteT (iteT ?_)
      exact ⟨_, rfl, od _ (fun _ _ _ => False) b1 dr1⟩
    rw [decide_eq_false hw0]
    refine iteF ?_
    refine ⟨_, rfl, (by show 2 ≤ sizeLine; decide), fun tp htp => ?_⟩
    have s2 := same_new (o := .tup [.ty "list", .ty "tuple"]) htp
    have e2 := upd_same (H := H1) (a := tp) (o := .tup [.ty "list", .ty "tuple"])
    generalize upd H1 tp (.tup [.ty "list", .ty "tuple"]) = H2 at s2 e2 ⊢
    have b2 : But st H H2 := b1.tr' s2
    have dr2 := dr1.same s2
    refine ⟨_, _, _, _, _, isLT d, rfl, e2, cls_all ["list", "tuple"], (ax.mono b2).ty, kit_any (k_lt d), ?_⟩
    refine ⟨_, rfl, ?_⟩
    cases hlt : isLT d
    · refine iteT (iteT ?_)
      exact ⟨_, rfl, od _ (fun _ _ _ => False) b2 dr2⟩
    refine iteF ?_
    obtain ⟨ds, sq⟩ := isLT_sq hlt
    obtain ⟨a, us, rfl, na, hsq, hus⟩ := ax_sq ax sq
    obtain ⟨kd, hq⟩ := Sq.k hsq
    have hlen := hus.length
    rw [z2_sq sq, Bool.and_eq_true_iff] at hz
    obtain ⟨hz1, hz2⟩ := hz
    have h5 : ds.length ≤ 5 := of_decide_eq_true hz1
    have hz2 := List.all_eq_true.mp hz2
    have hT : ∀ Hx, But st H Hx → SqK kd Hx a us ∧ AxAll st Hx us ds := fun Hx bx => ⟨hq.but na bx, hus.mono bx⟩
    refine ⟨_, rfl, _, _, rfl, (hT H2 b2).1.len, rfl, _, rfl, ?_⟩
    by_cases hl0 : V.int (us.length : Int) = V.int 0
    · rw [decide_eq_true hl0]
      refine iteT ?_
      exact ⟨_, rfl, od _ (fun _ _ _ => False) b2 dr2⟩
    rw [decide_eq_false hl0]
    refine iteF ?_
    have hpos : 0 < us.length := by
      rcases Nat.eq_zero_or_pos us.length with h | h
      · exact absurd (by rw [h]; rfl) hl0
      · exact h
    -- a place in it
    refine ⟨_, rfl, _, rfl, _, _, rfl, (hT H2 b2).1.len, st, c, ns, _, rfl, dr2, hns, (by omega), (by omega), fun ai H3 a0 a1 dr3 b23 => ?_⟩
    obtain ⟨j, rfl⟩ := Int.eq_ofNat_of_zero_le a0
    have hj : j < us.length := by omega
    have b3 := b2.trans b23
    obtain ⟨v, hv⟩ : ∃ v, us[j]? = some v := ⟨_, List.getElem?_eq_getElem hj⟩
    obtain ⟨e, he, ae⟩ := hus.get hv
    have hem := List.mem_of_getElem? he
    refine ⟨_, rfl, _, rfl, ix_q (hT H3 b3).1 hv ?_⟩
    -- one out
    refine ⟨_, rfl, rfl, _, rfl, ?_⟩
    by_cases hw1 : V.int wy = V.int 1
    · rw [decide_eq_true hw1]
      refine iteT ?_
      obtain ⟨o3, hm3⟩ := dr3.at
      refine ⟨_, rfl, _, rfl, _, rfl, sl_q (hT H3 b3).1 na hm3 fun p1 H4 n1 s4 q1 => ?_⟩
      rw [cut_to] at q1
      have b4 := b3.tr' s4
      refine ⟨_, rfl, _, rfl, _, _, rfl, rfl, _, rfl, sl_q (hT H4 b4).1 na (s4 _ _ hm3) fun p2 H5 n2 s5 q2 => ?_⟩
      rw [cut_fr1] at q2
      have b5 := b4.tr' s5
      refine cat_q (q1.same s5) q2 n1 n2 (s5 _ _ (s4 _ _ hm3)) (by rw [List.length_take, List.length_drop]; omega) fun p3 H6 n3 s6 q3 => ?_
      have b6 := b5.tr' s6
      have h6 := (hT H6 b6).2
      refine k _ _ H6 (q3.ax n3 ((h6.take j).append (h6.drop (j + 1)))) (z2_mk ?_ fun x hx => ?_) (((dr3.same s4).same s5).same s6) b6
      · rw [List.length_append, List.length_take, List.length_drop]
        omega
      · rcases List.mem_append.mp hx with h | h
        · exact z1_mono (by omega) (hz2 x (List.mem_of_mem_take h))
        · exact z1_mono (by omega) (hz2 x (List.mem_of_mem_drop h))
    rw [decide_eq_false hw1]
    refine iteF ?_
    -- more than once
    refine ⟨_, rfl, rfl, _, rfl, ?_⟩
    by_cases hw2 : V.int wy = V.int 2
    · rw [decide_eq_true hw2]
      refine iteT ?_
      obtain ⟨o3, hm3⟩ := dr3.at
      refine ⟨_, rfl, _, rfl, cat_q (hT H3 b3).1 (hT H3 b3).1 na na hm3 (by omega) fun p1 H4 n1 s4 q1 => ?_⟩
      have b4 := b3.tr' s4
      refine ⟨_, rfl, cat_q q1 (hT H4 b4).1 n1 na (s4 _ _ hm3) (by rw [List.length_append]; omega) fun p2 H5 n2 s5 q2 => ?_⟩
      have b5 := b4.tr' s5
      refine ⟨_, rfl, sl_q q2 n2 (s5 _ _ (s4 _ _ hm3)) fun p3 H6 n3 s6 q3 => ?_⟩
      rw [show (5 : Int) = ((5 : Nat) : Int) from rfl, cut_to] at q3
      have b6 := b5.tr' s6
      have h6 := (hT H6 b6).2
      refine k _ _ H6 (q3.ax n3 (((h6.append h6).append h6).take 5)) (z2_mk ?_ fun x hx => ?_) (((dr3.same s4).same s5).same s6) b6
      · rw [List.length_take]
        omega
      · have := List.mem_of_mem_take hx
        rcases List.mem_append.mp this with h | h
        · rcases List.mem_append.mp h with h | h
          · exact z1_mono (by omega) (hz2 x h)
          · exact z1_mono (by omega) (hz2 x h)
        · exact z1_mono (by omega) (hz2 x h)
    rw [decide_eq_false hw2]
    refine iteF ?_
    -- with another part in its place
    have put : ∀ (Hx H' : Hp) (p1 b : Addr) (y : V) (e' : PyData), But st H Hx → Drw Hx st c ns → Same Hx H' → p1 ≠ st → b ≠ st → SqK kd H' p1 (us.take j) → SqK kd H' b [y] → Ax st H' y e' → z1b (n + 1) e' = true →
        ∀ (Q' : VK), (∀ p3 H6, p3 ≠ st → Same H' H6 → SqK kd H6 p3 (us.take j ++ [y]) → Q' (.ref p3) H6) → rCat (.ref p1) (.ref b) H' Q' ∨ rCatA K (.ref p1) (.ref b) H' Q' := fun Hx H' p1 b y e' bx dx s' n1 nb q1 qb ay hz' Q' kk => by
      obtain ⟨ox, hmx⟩ := dx.at
      exact cat_q q1 qb n1 nb (s' _ _ hmx) (by rw [List.length_take]; show _ + 1 ≤ _; omega) kk
    have done : ∀ (Hx : Hp) (p3 : Addr) (y : V) (e' : PyData), But st H Hx → Drw Hx st c ns → p3 ≠ st → SqK kd Hx p3 (us.take j ++ [y]) → Ax st Hx y e' → z1b (n + 1) e' = true →
        ∀ (Q' : VK), (∀ z d' H', Ax st H' z d' → z2b (n + 1) d' = true → Drw H' st c ns → But st H H' → Q' z H') →
        (rSlL K (.ref a) (some ((j : Int) + 1)) none Hx fun u H7 => rCat (.ref p3) u H7 Q' ∨ rCatA K (.ref p3) u H7 Q') ∨ (rSlA K (.ref a) (some ((j : Int) + 1)) none Hx fun u H7 => rCat (.ref p3) u H7 Q' ∨ rCatA K (.ref p3) u H7 Q') := fun Hx p3 y e' bx dx n3 q3 ay hz' Q' kk => by
      obtain ⟨ox, hmx⟩ := dx.at
      refine sl_q (hT Hx bx).1 na hmx fun p4 H7 n4 s7 q4 => ?_
      rw [cut_fr1] at q4
      refine cat_q (q3.same s7) q4 n3 n4 (s7 _ _ hmx) (by rw [List.length_append, List.length_take, List.length_drop]; show _ + 1 + _ ≤ _; omega) fun p5 H8 n5 s8 q5 => ?_
      have b8 := (bx.tr' s7).tr' s8
      have h8 := (hT H8 b8).2
      have ay8 := ay.mono (Same.but (m := st) (Same.tr s7 s8))
      refine kk _ _ H8 (q5.ax n5 (((h8.take j).append (.cons ay8 .nil)).append (h8.drop (j + 1)))) (z2_mk ?_ fun x hx => ?_) ((dx.same s7).same s8) b8
      · rw [List.length_append, List.length_append, List.length_take, List.length_drop]
        show _ + 1 + _ ≤ _
        omega
      · rcases List.mem_append.mp hx with h | h
        · rcases List.mem_append.mp h with h | h
          · exact z1_mono (by omega) (hz2 x (List.mem_of_mem_take h))
          · rw [List.mem_singleton.mp h]
            exact hz'
        · exact z1_mono (by omega) (hz2 x (List.mem_of_mem_drop h))
    have oddput : ∀ Hx, But st H Hx → Drw Hx st c ns → ∀ σ : L2.St, σ[0]? = some (some (.ref st)) → σ[1]? = some (some (.ref a)) → σ[3]? = some (some (.int (j : Int))) →
        tOp (fun x y H Q => rCat x y H Q ∨ rCatA K x y H Q) (tOp (fun x y H Q => rCat x y H Q ∨ rCatA K x y H Q) (tSl (fun x lo hi H Q => rSlL K x lo hi H Q ∨ rSlA K x lo hi H Q) (tVar 1) tNoPart (tPart (tVar 3))) (tCall spRow [] E0 (tCons (tVar 1) (tCons (tCall spOddX [] E0 (tCons (tVar 0) tNil)) tNil)))) (tSl (fun x lo hi H Q => rSlL K x lo hi H Q ∨ rSlA K x lo hi H Q) (tVar 1) (tPart (tOp (rI0 fun i j => .int (i + j)) (tVar 3) (tC (.int 1)))) tNoPart) σ Hx Q := fun Hx bx dx σ h0 h1 h3 => by
      obtain ⟨ox, hmx⟩ := dx.at
      refine ⟨_, h1, _, h3, _, rfl, sl_q (hT Hx bx).1 na hmx fun p1 H4 n1 s4 q1 => ?_⟩
      rw [cut_to] at q1
      have b4 := bx.tr' s4
      have dr4 := dx.same s4
      refine ⟨_, h1, _, h0, st, c, ns, rfl, dr4, hns, fun y e' H5 hd ay dr5 b45 => ?_⟩
      obtain ⟨o5, hm5⟩ := dr5.at
      have b5 := b4.trans b45
      refine ⟨kd, st, a, us, y, o5, rfl, hm5, (hT H5 b5).1, fun b H6 nb s6 qb => ?_⟩
      have hz' : z1b (n + 1) e' = true := z1_mono (by omega) (odd_w hd).2.1
      have ay6 := ay.mono (Same.but (m := st) s6)
      refine put H5 H6 p1 b y e' b5 dr5 s6 n1 nb ((q1.but n1 b45).same s6) qb ay6 hz' _ fun p3 H7 n3 s7 q3 => ?_
      have s57 := Same.tr s6 s7
      refine ⟨_, h1, _, h3, _, _, rfl, rfl, _, rfl, ?_⟩
      exact done H7 p3 y e' (b5.tr' s57) (dr5.same s57) n3 q3 (ay6.mono (Same.but (m := st) s7)) hz' _ k
    refine ⟨_, rfl, rfl, _, rfl, ?_⟩
    by_cases hw3 : V.int wy = V.int 3
    · rw [decide_eq_true hw3]
      refine iteT (iteT ?_)
      exact oddput H3 b3 dr3 _ rfl rfl rfl
    rw [decide_eq_false hw3]
    refine iteF ?_
    refine ⟨_, rfl, (by show 2 ≤ sizeLine; decide), fun tp2 htp2 => ?_⟩
    have s4 := same_new (o := .tup [.ty "list", .ty "tuple"]) htp2
    have e4 := upd_same (H := H3) (a := tp2) (o := .tup [.ty "list", .ty "tuple"])
    generalize upd H3 tp2 (.tup [.ty "list", .ty "tuple"]) = H4 at s4 e4 ⊢
    have b4 : But st H H4 := b3.tr' s4
    have dr4 := dr3.same s4
    refine ⟨_, _, _, _, _, isLT e, rfl, e4, cls_all ["list", "tuple"], (ae.mono b4).ty, kit_any (k_lt e), ?_⟩
    refine ⟨_, rfl, ?_⟩
    cases hlte : isLT e
    · refine iteT ?_
      exact oddput H4 b4 dr4 _ rfl rfl rfl
    refine iteF ?_
    obtain ⟨es, sqe⟩ := isLT_sq hlte
    obtain ⟨ea, vs, rfl, nea, hsqe, hvs⟩ := ax_sq ae sqe
    obtain ⟨ke, hqe⟩ := Sq.k hsqe
    have hlene := hvs.length
    have hze := hz2 e hem
    rw [z1_sq sqe, Bool.and_eq_true_iff] at hze
    have hn : es.length ≤ n := of_decide_eq_true hze.1
    have hze2 := List.all_eq_true.mp hze.2
    have hE : ∀ Hx, But st H Hx → SqK ke Hx ea vs ∧ AxAll st Hx vs es := fun Hx bx => ⟨hqe.but nea bx, hvs.mono bx⟩
    refine ⟨_, rfl, _, rfl, _, _, rfl, (hE H4 b4).1.len, _, _, rfl, rfl, st, c, ns, _, rfl, dr4, hns, (by omega), (by omega), fun pi H5 p0 p1 dr5 b45 => ?_⟩
    obtain ⟨q, rfl⟩ := Int.eq_ofNat_of_zero_le p0
    have hq' : q ≤ vs.length := by omega
    have b5 := b4.trans b45
    obtain ⟨o5, hm5⟩ := dr5.at
    refine ⟨fun σ' H' => ∃ (b : Addr) (e' : PyData), σ' = [some (.ref st), some (.ref a), some (.int wy), some (.int (j : Int)), some (.ref b), some (.int (q : Int))] ∧ Ax st H' (.ref b) e' ∧ z1b (n + 1) e' = true ∧ Drw H' st c ns ∧ But st H H', ?_, ?_⟩
    · have wr : ∃ g : Nat, wy = (g : Int) ∧ 4 ≤ g ∧ g ≤ 8 := by
        have h0 : wy ≠ 0 := fun z => hw0 (by rw [z])
        have h1 : wy ≠ 1 := fun z => hw1 (by rw [z])
        have h2 : wy ≠ 2 := fun z => hw2 (by rw [z])
        have h3 : wy ≠ 3 := fun z => hw3 (by rw [z])
        exact ⟨wy.toNat, by omega, by omega, by omega⟩
      obtain ⟨g, rfl, g4, g8⟩ := wr
      refine ⟨_, rfl, _, _, rfl, rfl, _, rfl, ?_⟩
      by_cases h6 : (g : Int) < 6
      · rw [decide_eq_true h6]
        refine iteT ?_
        refine ⟨_, rfl, _, rfl, _, rfl, sl_q (hE H5 b5).1 nea hm5 fun p1 H6 n1 s6 q1 => ?_⟩
        rw [cut_to] at q1
        have b6 := b5.tr' s6
        have dr6 := dr5.same s6
        refine ⟨_, rfl, _, rfl, st, c, ns, rfl, dr6, hns, fun y e' H7 hw' ay dr7 b67 => ?_⟩
        have b7 := b6.trans b67
        obtain ⟨o7, hm7⟩ := dr7.at
        refine ⟨ke, st, ea, vs, y, o7, rfl, hm7, (hE H7 b7).1, fun b H8 nb s8 qb => ?_⟩
        have b8 := b7.tr' s8
        refine cat_q ((q1.but n1 b67).same s8) qb n1 nb (s8 _ _ hm7) (by rw [List.length_take]; show _ + 1 ≤ _; omega) fun p3 H9 n3 s9 q3 => ?_
        have b9 := b8.tr' s9
        refine ⟨_, rfl, _, rfl, _, rfl, _, _, rfl, rfl, _, _, rfl, rfl, _, rfl, sl_q (hE H9 b9).1 nea (s9 _ _ (s8 _ _ hm7)) fun p4 HA n4 sA q4 => ?_⟩
        rw [show ((q : Int) + (g : Int) - 4) = ((q + (g - 4) : Nat) : Int) by omega, cut_fr] at q4
        refine cat_q (q3.same sA) q4 n3 n4 (sA _ _ (s9 _ _ (s8 _ _ hm7))) (by rw [List.length_append, List.length_take, List.length_drop]; show _ + 1 + _ ≤ _; omega) fun p5 HB n5 sB q5 => ?_
        have s8B : Same H8 HB := Same.tr s9 (Same.tr sA sB)
        have s7B : Same H7 HB := Same.tr s8 s8B
        have bB := b7.tr' s7B
        have hB := (hE HB bB).2
        refine ⟨p5, _, rfl, q5.ax n5 (((hB.take q).append (.cons (ay.mono (Same.but (m := st) s7B)) .nil)).append (hB.drop (q + (g - 4)))), z1_mk ?_ fun x hx => ?_, dr7.same s7B, bB⟩
        · rw [List.length_append, List.length_append, List.length_take, List.length_drop]
          show _ + 1 + _ ≤ _
          omega
        · rcases List.mem_append.mp hx with h | h
          · rcases List.mem_append.mp h with h | h
            · exact hze2 x (List.mem_of_mem_take h)
            · rw [List.mem_singleton.mp h]
              exact hw'
          · exact hze2 x (List.mem_of_mem_drop h)
      rw [decide_eq_false h6]
      refine iteF ?_
      refine ⟨_, rfl, rfl, _, rfl, ?_⟩
      by_cases h6' : V.int (g : Int) = V.int 6
      · rw [decide_eq_true h6']
        refine iteT ?_
        refine ⟨_, rfl, _, rfl, _, rfl, sl_q (hE H5 b5).1 nea hm5 fun p1 H6 n1 s6 q1 => ?_⟩
        rw [cut_to] at q1
        have b6 := b5.tr' s6
        refine ⟨_, rfl, _, rfl, _, _, rfl, rfl, _, rfl, sl_q (hE H6 b6).1 nea (s6 _ _ hm5) fun p2 H7 n2 s7 q2 => ?_⟩
        rw [cut_fr1] at q2
        refine cat_q (q1.same s7) q2 n1 n2 (s7 _ _ (s6 _ _ hm5)) (by rw [List.length_take, List.length_drop]; omega) fun p3 H8 n3 s8 q3 => ?_
        have s58 : Same H5 H8 := Same.tr s6 (Same.tr s7 s8)
        have b8 := b5.tr' s58
        have h8 := (hE H8 b8).2
        refine ⟨p3, _, rfl, q3.ax n3 ((h8.take q).append (h8.drop (q + 1))), z1_mk ?_ fun x hx => ?_, dr5.same s58, b8⟩
        · rw [List.length_append, List.length_take, List.length_drop]
          omega
        · rcases List.mem_append.mp hx with h | h
          · exact hze2 x (List.mem_of_mem_take h)
          · exact hze2 x (List.mem_of_mem_drop h)
      rw [decide_eq_false h6']
      refine iteF ?_
      refine ⟨_, rfl, rfl, _, rfl, ?_⟩
      by_cases h7 : V.int (g : Int) = V.int 7
      · rw [decide_eq_true h7]
        refine iteT ?_
        refine ⟨_, rfl, _, rfl, cat_q (hE H5 b5).1 (hE H5 b5).1 nea nea hm5 (by omega) fun p1 H6 n1 s6 q1 => ?_⟩
        have b6 := b5.tr' s6
        refine ⟨_, rfl, cat_q q1 (hE H6 b6).1 n1 nea (s6 _ _ hm5) (by rw [List.length_append]; omega) fun p2 H7 n2 s7 q2 => ?_⟩
        refine ⟨_, rfl, sl_q q2 n2 (s7 _ _ (s6 _ _ hm5)) fun p3 H8 n3 s8 q3 => ?_⟩
        rw [show (9 : Int) = ((9 : Nat) : Int) from rfl, cut_to] at q3
        have s58 : Same H5 H8 := Same.tr s6 (Same.tr s7 s8)
        have b8 := b5.tr' s58
        have h8 := (hE H8 b8).2
        refine ⟨p3, _, rfl, q3.ax n3 (((h8.append h8).append h8).take 9), z1_mk ?_ fun x hx => ?_, dr5.same s58, b8⟩
        · rw [List.length_take]
          omega
        · have := List.mem_of_mem_take hx
          rcases List.mem_append.mp this with h | h
          · rcases List.mem_append.mp h with h | h
            · exact hze2 x h
            · exact hze2 x h
          · exact hze2 x h
      rw [decide_eq_false h7]
      refine iteF ?_
      refine rev_q rfl (hE H5 b5).1 hm5 fun p1 H6 n1 s6 q1 => ?_
      have b6 := b5.tr' s6
      refine ⟨p1, _, rfl, q1.ax n1 (hE H6 b6).2.rev, z1_mk (by rw [List.length_reverse]; omega) (fun x hx => hze2 x (List.mem_reverse.mp hx)), dr5.same s6, b6⟩
    · rintro σ' H6 ⟨b, e', rfl, ay, hz', dr6, b6⟩
      obtain ⟨o6, hm6⟩ := dr6.at
      refine ⟨_, rfl, _, rfl, _, rfl, sl_q (hT H6 b6).1 na hm6 fun p1 H7 n1 s7 q1 => ?_⟩
      rw [cut_to] at q1
      have b7 := b6.tr' s7
      refine ⟨_, rfl, _, rfl, kd, st, a, us, .ref b, o6, rfl, s7 _ _ hm6, (hT H7 b7).1, fun b2 H8 nb s8 qb => ?_⟩
      have s68 := Same.tr s7 s8
      have ay8 := ay.mono (Same.but (m := st) s68)
      refine put H6 H8 p1 b2 _ e' b6 dr6 s68 n1 nb (q1.same s8) qb ay8 hz' _ fun p3 H9 n3 s9 q3 => ?_
      have s69 := Same.tr s68 s9
      refine ⟨_, rfl, _, rfl, _, _, rfl, rfl, _, rfl, ?_⟩
      exact done H9 p3 _ e' (b6.tr' s69) (dr6.same s69) n3 q3 (ay8.mono (Same.but (m := st) s9)) hz' _ k
end
end C79

set_option Elab.async false
set_option maxRecDepth 100000
set_option maxHeartbeats 4000000
set_option linter.all false
namespace C79
open PySem L2 My M78
abbrev sMis : Stmt := top 49
abbrev nMis : List Str := ["_law_deed", "_law_found", "e"]
theorem scMis : FnScope nMis ["_law_deed"] (defScope sMis) := ⟨rfl, rfl, rfl, by decide +kernel, rfl, by decide +kernel, by decide +kernel⟩

theorem takes_len {X : Cx} {W : WX} {n : Nat} (tk : Takes X W) (hn : X.N.length = n) : Takes X (fun c d σ H => σ.length = n → W c d σ H) := fun u s' ⟨a, B, sI, pins, σ, H, cls, d, e, I, nb, up, sky, na, os, ag, w⟩ =>
  tk u s' ⟨a, B, sI, pins, σ, H, cls, d, e, I, nb, up, sky, na, os, ag, w (I.len.trans hn)⟩
/-- what _law_misused makes of what it calls -/
def TMis (CP : Addr) : (XK → Hp → VK → Prop) → Hp → VK → Prop := fun tl H Q =>
  ∀ Q' : VK, tl (fun cls d H' => ∃ dd, cls = .ref CP ∧ d = some dd ∧ H' dd = some (.xd [(fld, .non)]) ∧ Q (.bl true) H') H Q'
theorem mis_gives {X : Cx} {CE CD CP fI g : Addr} {cdg : Value} {q : Str} (T3 : Cls3 X.K X.mg CE CD CP fI) (hisi : X.mg "isinstance" = none) :
    LamX.GivesTo X nMis "_law_misused" (defScope sMis) g cdg (defBody sMis) "_law_deed" q (TMis CP) := by
  intro f c' s H Q tl act hc h
  have nd := scMis.nd
  refine ⟨_, pss_cons (ps_asg pe_bl (pg_name (i := 1) nd rfl (Or.inl rfl)))
    (pss_cons (ps_try_manyA (X := (cxOf C8.CX0 X.prog X.w X.K X.mg X.base nMis "_law_misused" (defScope sMis) g cdg X.A X.stack s H C8.E0).nox)
        (tb := fun W D σ H => ∃ Ech : XK, (∀ cls d σ' H', σ'.length = 3 → Ech cls d H' → W cls d σ' H') ∧ σ[0]? = some (some (.ref f)) ∧ H c' = some (LamX.CodeO c' q) ∧ tl Ech H (fun _ H' => D.nx σ H'))
        rfl rfl nd LamX.takes0 (fun W pn xe tk _ => ?_)
        (.cons (i := 2) ⟨rfl, by decide, .inl T3.gP⟩ rfl rfl (fun a oe cls d pn hz hf => pss_one (ps_asg (pe_and (pe_callB (call_isP hz hf) (by rfl) hisi (by decide +kernel) (pa_cons (pv 2) (pa_cons (pe_gR rfl T3.gD) pa_nil))) (pe_one (pe_cmpR op_isN (pe_xf (C := CP) ⟨T3.ec.hg, T3.ec.hk, T3.ec.hs, T3.ec.hd⟩ T3.no hz hf (pv 2)) pe_non (nomark _)))) (pg_name (i := 1) nd rfl (Or.inl rfl))))
        (.cons (i := 2) ⟨rfl, by decide, .inl T3.gE⟩ rfl rfl (fun a oe cls d pn hz hf => pss_one (ps_asg pe_bl (pg_name (i := 1) nd rfl (Or.inl rfl)))) .nil)))
    (pss_one (ps_ret (pv 1)))), ?_⟩
  · refine ⟨fun pins s' σ H' D I h' => ?_⟩
    obtain ⟨Ech, hW, h1, h2, h3⟩ := h'
    exact (pss_one (ps_expr (act (fun c d σ H => σ.length = 3 → W c d σ H) pn xe Ech _ _ (takes_len tk rfl) (fun cls d σ' H' h hl => hW cls d σ' H' hl h)))).run pins s' σ H' D I ⟨h1, h2, h3⟩
  · refine ⟨fun cls d H' => ∃ dd, cls = .ref CP ∧ d = some dd ∧ H' dd = some (.xd [(fld, .non)]) ∧ Q (.bl true) H', ?_, rfl, hc, ?_⟩
    · rintro cls d σ' H' hl ⟨dd, rfl, rfl, e, q⟩
      refine ⟨true, T3.exm, fun _ a ha => ?_, fun z => by cases z⟩
      match σ', hl with
      | [x0, x1, x2], _ =>
        refine ⟨_, rfl, CP, dd, _, _, _, true, rfl, rfl, rfl, e, T3.ec, .own _, T3.kit, ?_⟩
        refine ⟨_, rfl, iteT ?_⟩
        refine ⟨_, rfl, rfl, rfl, dd, _, _, rfl, e, (by rw [lookup_put, if_pos rfl]), rfl, ?_⟩
        exact ⟨_, rfl, q⟩
    · exact h _
end C79

set_option Elab.async false
set_option maxRecDepth 100000
set_option maxHeartbeats 4000000
set_option linter.all false
/-! The law's own def, run where no repr is under way, with the table of its code object (it makes lambdas). -/
namespace My
open PySem PySem.Spec PyProof.Rows L2
/-- as Fun.okG, the def's code object known -/
theorem Fun.okH {P : Program} {w : World} {K : PySem.W.Frag} {mg : Str → Option Value} {base : Heap} {x qual : Str} {st : Stmt} {f : Addr} {fd : FuncData} {N ps : List Str} {k : Nat} {sp : Sp} {cv : Value} (F : Fun K x qual st f fd) (S : FnScope N ps (defScope st))
    (hcv : fd.code = cv) (len : ∀ vs H Q E, sp vs H Q E → vs.length = ps.length)
    (hbody : ∀ (A : Around) (outer : List Env) (s : Shared) (H : Hp) (vs : List V) (Q : VK) (E : XK), A.guards = some [] → Room k (A.deeper (envOfC qual (defScope st) s.heap.objs.size f cv)) → sp vs H Q E →
      ∃ t, PSs (cxOf CX0 P w K mg base N qual (defScope st) f cv A outer s H E).nox (defBody st) t ∧ t { nx := fun _ H' => Q .non H', rt := Q } (start N vs) H) : FnG P w K mg base (k + 1) f fd ps sp := by
  obtain ⟨oc, od, kV, doc, pm, an, cdv, ct, osl, rfl, lk, hcd⟩ := F.ex
  obtain rfl : cdv = cv := hcv
  refine ⟨len, fun A outer s H args us vs Q E hg hr e0 hb r hsp => ?_⟩
  refine LamX.run_ofS (N := N) lk hcd S hr e0 hb r (len _ _ _ _ hsp) fun hr' => ?_
  obtain ⟨t, ht, hq⟩ := hbody A outer s H vs Q E hg hr' hsp
  exact ⟨t, ht.nox, hq⟩
theorem law_callH {P : Program} {w : World} {K : PySem.W.Frag} {mg mb : Str → Option Value} {k : Nat} {fa a c p : Addr} {fd : FuncData} {x : Str} {sp : Sp} {s₁ : Shared} {vs : List Value} {ns : List Int}
    (KX : K.In s₁.heap) (hns : s₁.heap.Ns mainGlobals mg) (hb : s₁.heap.Ns builtinsNs mb) (hbb : ∀ x : Str, x ≠ "__name__" → mb x = bootBuiltins x) (hlim : s₁.heap.NoLimit) (hg : s₁.gens = #[])
    (hT : s₁.heap.get? p = some { cls := .none, data := .fields #[] }) (nT : K.lookup p = none) (C : PySem.W.CodeHd s₁.heap c p)
    (hbm : ∃ (bm : Addr) (ob : Obj), mg "__builtins__" = some (.ref bm) ∧ bm ≠ builtinsNs ∧ s₁.heap.get? bm = some ob ∧ ob.cls = .type "module" ∧ ob.dict = some builtinsNs ∧ ob.data = .plain)
    (ha : s₁.heap.get? a = some { cls := .type "list", data := .seq vs.toArray }) (hi : IntsAre vs ns) (hl : ns.length ≤ sizeLine) (hr : Room k callerA)
    (F : ∀ base : Heap, K.In base → base.Ns mainGlobals mg → LamX.TabB base mg c p → FnG P w K mg base k fa fd [x] sp) (hbind : ∀ (s : Shared) (u : Value), BindsTo s fd ⟨[u], []⟩ [(x, u)])
    (hsp : ∀ H : Hp, H p = some (.tbl #[]) → SqL K H a (ns.map V.int) → sp [.ref a] H (fun v _ => v = .bl true) fun _ _ _ => False) :
    codeAny (model P w) callerA (.call (.ref fa) ⟨[.ref a], []⟩) (fun r s' => r = .ok (.ret (.bool true)) ∧ OldK s₁.heap s'.heap ∧ s'.os = s₁.os ∧ AllBare s'.gens) s₁ := by
  have rv := vals_ints hi
  have lv := hi.length
  have nap : a ≠ p := fun z => by
    rw [z, hT] at ha
    have := congrArg Obj.data (Option.some.inj ha)
    cases this
  have core : ∀ H : Hp, H p = some (.tbl #[]) → (∀ b, H b = none ∨ b = p ∨ ∃ o xs, H b = some (.frz o (.lst xs))) → SqL K H a (ns.map V.int) → HOk P w H s₁.heap → (∀ b, H b ≠ none → b = a ∨ b = p) → (H a ≠ none → K.lookup a = none) →
      codeAny (model P w) callerA (.call (.ref fa) ⟨[.ref a], []⟩) (fun r s' => r = .ok (.ret (.bool true)) ∧ OldK s₁.heap s'.heap ∧ s'.os = s₁.os ∧ AllBare s'.gens) s₁ := by
    intro H hH hO hS hok hA hK
    have hid : ∀ {b : Addr} {o : Obj}, s₁.heap.get? b = some o → H b = none → (hidT s₁.heap H).get? b = some o := fun e n => hidT_get e n
    have free : ∀ {b : Addr} {o : Obj}, s₁.heap.get? b = some o → (∀ us n, o.data ≠ .seq us n) → o.data ≠ .fields #[] → H b = none := fun {b o} e h1 h2 => by
      cases q : H b with
      | none => rfl
      | some u =>
        rcases hA b (by rw [q]; simp) with rfl | rfl
        · rw [ha] at e
          cases e
          exact absurd rfl (h1 _ _)
        · rw [hT] at e
          cases e
          exact absurd rfl h2
    have noA : ∀ {b : Addr} {o : Obj} {es : Array DictEntry} {ep : Nat}, s₁.heap.get? b = some o → o.data = .dict es ep → H b = none := fun {b o es ep} e d =>
      free e (fun us n z => by rw [d] at z; cases z) (fun z => by rw [d] at z; cases z)
    have nsK : ∀ {b : Addr} {m : Str → Option Value}, s₁.heap.Ns b m → (hidT s₁.heap H).Ns b m := fun {b m} ⟨o, es, ep, e, d, r⟩ => ⟨o, es, ep, hid e (noA e d), d, r⟩
    have kb : K.In (hidT s₁.heap H) := fun b o e => hid (KX b o e) (by
      cases q : H b with
      | none => rfl
      | some u =>
        rcases hA b (by rw [q]; simp) with rfl | rfl
        · rw [hK (by rw [q]; simp)] at e
          cases e
        · rw [nT] at e
          cases e)
    have md : Mod K mg (hidT s₁.heap H) := ⟨kb, nsK hns, ⟨mb, nsK hb, hbb⟩, let ⟨mc, h1, h2⟩ := hlim; ⟨mc, nsK h1, h2⟩⟩
    have TB : LamX.TabB (hidT s₁.heap H) mg c p := by
      refine ⟨?_, ?_, fun z => ?_⟩
      · obtain ⟨o, us, file, tf, flags, tg, inF, text, tt, e1, r1, r2, r3, r⟩ := C
        refine ⟨o, us, file, tf, flags, tg, inF, text, tt, hid e1 (free e1 (fun vs n z => ?_) fun z => ?_), r1, r2, r3, r⟩
        · rw [r2] at z
          cases z
        · rw [r2] at z
          cases z
          simp at r3
      · obtain ⟨bm, ob, b1, b2, b3, b4, b5, b6⟩ := hbm
        have nG : bm ≠ mainGlobals := fun q => by
          obtain ⟨o, es, ep, e, hd, _⟩ := hns
          rw [q, e] at b3
          cases b3
          rw [hd] at b6
          cases b6
        have nP : bm ≠ p := fun q => by
          rw [q, hT] at b3
          cases b3
          cases b6
        refine ⟨bm, ob, b1, b2, nG, nP, hid b3 (free b3 (fun vs n z => ?_) fun z => ?_), b4, b5, b6⟩
        · rw [b6] at z
          cases z
        · rw [b6] at z
          cases z
      · obtain ⟨o, es, ep, e, hd, _⟩ := hns
        rw [z, hT] at e
        cases e
        cases hd
    have e0 : Env0 P w K mg (hidT s₁.heap H) callerA [] s₁ H := ⟨rfl, md, fun b o e => of_hidT e, Nat.le_of_eq (hidT_size _ _), trivial, fun b hb => absurd (show b ∈ ([] : List Addr) from hb) (by simp), hok, .of_eq hg⟩
    refine codeAny_mono ((F _ kb (nsK hns) TB).run callerA [] s₁ H ⟨[.ref a], []⟩ [.ref a] [.ref a] _ _ rfl hr e0 (hbind s₁ (.ref a)) (.cons rfl .nil) (hsp H hH hS)) fun r s' h => ?_
    cases r with
    | error e => exact False.elim h
    | ok fl =>
      cases fl with
      | next => exact False.elim h
      | brk => exact False.elim h
      | cont => exact False.elim h
      | ret u =>
        obtain ⟨v, H', os, bare, un, hok', r', q⟩ := h
        have q' : v = .bl true := q
        subst q'
        obtain rfl : u = Value.bool true := r'
        have key : ∀ b o, b ≠ p → s₁.heap.get? b = some o → s'.heap.get? b = some o := fun b o nb e => by
          cases q : H b with
          | none => exact un.keep b o e q (by intro z; exact absurd (show b ∈ ([] : List Addr) from z) (by simp)) (by simp)
          | some u =>
            rcases hO b with z | z | ⟨ob, xs, z⟩
            · rw [q] at z
              cases z
            · exact absurd z nb
            · have z2 := un.frzs b ob _ z
              obtain ⟨e1, _⟩ := hok b _ z
              obtain ⟨e2, _⟩ := hok' b _ z2
              rw [e] at e1
              cases e1
              exact e2
        obtain ⟨more, zm⟩ := un.tbls p #[] hH
        have hm := hok' p _ zm
        refine ⟨rfl, ⟨fun b o e => ?_, fun b o e => ?_⟩, os, bare⟩
        · by_cases hb : b = p
          · subst hb
            rw [hT] at e
            cases e
            exact .inr (.inl ⟨(C.tab hT).isCodeTable, rfl, #[], more, rfl, hm⟩)
          · exact .inl (key b o hb e)
        · by_cases hb : b = p
          · subst hb
            exact ⟨_, hm⟩
          · exact ⟨o, key b o hb e⟩
  cases hk : K.lookup a with
  | some o =>
    have e := KX a o hk
    rw [ha] at e
    cases e
    refine core (fun b => if b = p then some (.tbl #[]) else none) (if_pos rfl) (fun b => ?_) (.inr ⟨_, vs.toArray, _, hk, rfl, rfl, rfl, by rw [List.size_toArray, lv]; exact hl, by simpa using rv⟩) (fun b u z => ?_) (fun b z => ?_) fun z => absurd (show (if a = p then some (HO.tbl #[]) else none) = none from if_neg nap) z
    · by_cases hb : b = p
      · exact .inr (.inl hb)
      · exact .inl (if_neg hb)
    · by_cases hb : b = p
      · have z' := (if_pos hb).symm.trans z
        cases z'
        subst hb
        exact hT
      · have z' := (if_neg hb).symm.trans z
        cases z'
    · by_cases hb : b = p
      · exact .inr hb
      · exact absurd (if_neg hb) z
  | none =>
    refine core (fun b => if b = a then some (.frz { cls := .type "list", data := .seq vs.toArray } (.lst (ns.map V.int))) else if b = p then some (.tbl #[]) else none) ((if_neg (Ne.symm nap)).trans (if_pos rfl)) (fun b => ?_)
      (.inl (.inr ⟨{ cls := .type "list", data := .seq vs.toArray }, if_pos rfl⟩)) (fun b u z => ?_) (fun b z => ?_) fun _ => hk
    · by_cases hb : b = a
      · exact .inr (.inr ⟨_, _, if_pos hb⟩)
      · by_cases hb2 : b = p
        · exact .inr (.inl hb2)
        · exact .inl ((if_neg hb).trans (if_neg hb2))
    · by_cases hb : b = a
      · have z' := (if_pos hb).symm.trans z
        cases z'
        subst hb
        exact ⟨ha, by rw [List.length_map]; exact hl, vs, _, rv, ha⟩
      · have z1 := (if_neg hb).symm.trans z
        by_cases hb2 : b = p
        · have z' := (if_pos hb2).symm.trans z1
          cases z'
          subst hb2
          exact hT
        · have z' := (if_neg hb2).symm.trans z1
          cases z'
    · by_cases hb : b = a
      · exact .inl hb
      · by_cases hb2 : b = p
        · exact .inr hb2
        · exact absurd ((if_neg hb).trans (if_neg hb2)) z
theorem no_tab {K : PySem.W.Frag} {p : Addr} {h : Heap} (X : K.In h) (hT : h.get? p = some { cls := .none, data := .fields #[] }) (hK : PySem.W.noTabs K = true) : K.lookup p = none := by
  cases e : K.lookup p with
  | none => rfl
  | some o =>
    have h1 := X p o e
    rw [hT] at h1
    cases h1
    have h2 := List.all_eq_true.mp hK _ (PySem.W.mem_of_lookupK e)
    exact absurd (show false = true from h2) Bool.false_ne_true
/-- the end of a law whose def makes lambdas and calls repr -/
theorem walk_ofH {l : PySem.W.OpenLaw} {n k : Nat} {q : Program} {loose : List Str} {XP : (Str → Option Value) → Heap → Prop} {YP : World → Heap → Prop} {d : DefRec} {K : Params → PySem.W.Frag} {sp : World → Addr → Sp} {x : Str}
    (hn : l.most = some n) (hn2 : n ≤ sizeLine) (hdf : d.params.defaults = []) (hr : Room k callerA)
    (hY : ∀ (w : World) (h : Heap), YP w h → (K w.params).In h) (hd : d ∈ recsOf q) (hK : ∀ w : World, PySem.W.noTabs (K w.params) = true)
    (F : ∀ (w : World) (mg : Str → Option Value) (fa c p : Addr) (h : Heap), (K w.params).In h → h.Ns mainGlobals mg → mg d.name = some (.ref fa) → (∀ o fd, h.get? fa = some o → o.data = .func fd → fd.code = .ref c) →
      ∃ fd : FuncData, (∀ (s : Shared) (u : Value), BindsTo s fd ⟨[u], []⟩ [(x, u)]) ∧
        ∀ base : Heap, (K w.params).In base → base.Ns mainGlobals mg → LamX.TabB base mg c p → FnG l.prog w (K w.params) mg base k fa fd [x] (sp w p))
    (hsp : ∀ (w : World) (H : Hp) (a p : Addr) (ns : List Int), ns.length ≤ n → H p = some (.tbl #[]) → SqL (K w.params) H a (ns.map V.int) → sp w p [.ref a] H (fun v _ => v = .bl true) fun _ _ _ => False) :
    PySem.W.WalkO q loose XP YP l.row.toRowW d [] (fun f vs => PySem.call f vs) := by
  refine Att.attach_call hn hdf fun w s₀ s₁ mg mb fa o pm cd doc a vs ns G Y ho hd2 hcd hmg hobj hints hlen hg => ?_
  have KX := hY w _ Y
  obtain ⟨a2, o2, fd2, c, p, t1, t2, t3, t4, t5, t6⟩ := G.T.tab d hd
  rw [hmg] at t1
  cases t1
  obtain ⟨fd, hb, hF⟩ := F w mg fa c p _ KX G.T.g hmg (fun o fd e1 e2 => by
    rw [t2] at e1
    cases e1
    rw [t3] at e2
    cases e2
    exact t4)
  exact law_callH KX G.T.g G.T.b G.T.builtins G.T.nolimit hg t6.2 (no_tab KX t6.2 (hK w)) (.of t5 t6) G.T.bmain hobj hints (Nat.le_trans hlen hn2) hr hF hb (fun H hH hS => hsp w H a p ns hlen hH hS)
end My

set_option Elab.async false
set_option maxRecDepth 100000
set_option maxHeartbeats 4000000
set_option linter.all false
namespace C79
open PySem L2 My M78
abbrev sLaw : Stmt := top 55
abbrev nLaw : List Str := ["_law_script_here", "_law_state", "_law_turn", "_law_k", "_law_kept", "_law_ask", "_law_look", "_law_odd_here", "_law_thing"]
theorem scLaw : FnScope nLaw ["_law_script_here"] (defScope sLaw) := ⟨rfl, rfl, rfl, by decide +kernel, rfl, by decide +kernel, by decide +kernel⟩

open LamX (ExtN Tabs TabS)
mutual
theorem At.extN {m : Addr} {H H' : Hp} (b : ExtN H H') : ∀ {v : V} {d : PyData}, At m H v d → At m H' v d
  | _, _, .non => .non
  | _, _, .bl k => .bl k
  | _, _, .int i => .int i
  | _, _, .str x => .str x
  | _, _, .lst n h q => .lst n (b _ _ h (fun _ z => by cases z)) (AtAll.extN b q)
  | _, _, .tup n h q => .tup n (b _ _ h (fun _ z => by cases z)) (AtAll.extN b q)
theorem AtAll.extN {m : Addr} {H H' : Hp} (b : ExtN H H') : ∀ {vs : List V} {ds : List PyData}, AtAll m H vs ds → AtAll m H' vs ds
  | _, _, .nil => .nil
  | _, _, .cons h q => .cons (At.extN b h) (AtAll.extN b q)
end
theorem Drw.extN {H H' : Hp} {st c : Addr} {ns : List Int} (h : Drw H st c ns) (b : ExtN H H') : Drw H' st c ns := by
  obtain ⟨hc, n, v, k, h0, hs⟩ := h
  exact ⟨b _ _ hc (fun _ z => by cases z), n, v, k, h0, b _ _ hs (fun _ z => by cases z)⟩
theorem Tabs.but {T : List (Addr × Str)} {H H' : Hp} {st c : Addr} {ns : List Int} (h : Tabs T H) (dr : Drw H st c ns) (b : But st H H') : Tabs T H' := fun p hp => by
  obtain ⟨_, _, _, _, _, hs⟩ := dr
  obtain ⟨ps, h1, h2, h3⟩ := h p hp
  refine ⟨ps, b _ _ h1 (fun z => ?_), h2, fun pos cv hc => ?_⟩
  · rw [z, hs] at h1
    cases h1
  · obtain ⟨q, e1, e2⟩ := h3 pos cv hc
    refine ⟨q, e1, b _ _ e2 (fun z => ?_)⟩
    rw [z, hs] at e2
    cases e2

mutual
theorem Ax.extN {m : Addr} {H H' : Hp} (b : ExtN H H') : ∀ {v : V} {d : PyData}, Ax m H v d → Ax m H' v d
  | _, _, .non => .non
  | _, _, .bl k => .bl k
  | _, _, .int i => .int i
  | _, _, .str x => .str x
  | _, _, .lst n h q => .lst n (b _ _ h (fun _ z => by cases z)) (AxAll.extN b q)
  | _, _, .tup n h q => .tup n (b _ _ h (fun _ z => by cases z)) (AxAll.extN b q)
  | _, _, .dic n h => .dic n (b _ _ h (fun _ z => by cases z))
theorem AxAll.extN {m : Addr} {H H' : Hp} (b : ExtN H H') : ∀ {vs : List V} {ds : List PyData}, AxAll m H vs ds → AxAll m H' vs ds
  | _, _, .nil => .nil
  | _, _, .cons h q => .cons (Ax.extN b h) (AxAll.extN b q)
end
theorem paired_mem {α β : Type} {R : α → β → Prop} {xs : List α} {ys : List β} {y : β} (h : Paired R xs ys) (hy : y ∈ ys) : ∃ x ∈ xs, R x y := by
  obtain ⟨i, hi, e⟩ := List.getElem_of_mem hy
  obtain ⟨x, e1, r⟩ := paired_get h (i := i) (y := y) (by rw [List.getElem?_eq_getElem hi, e])
  exact ⟨x, List.mem_of_getElem? e1, r⟩
/-! what was handed -/
theorem Hnd.tup {ds : List PyData} {d : PyData} (h : Hnd (.tuple ds) d) : ∃ es, Sq2 d es ∧ HndAll ds es := by
  cases h with
  | leaf l => cases l
  | seq s s' q =>
    rcases s with z | z
    · cases z
    · cases z
      exact ⟨_, s', q⟩
theorem Hnd.leaf_eq {d d' : PyData} (h : Hnd d d') (l : lt2 d = false) : d' = d := by
  cases h with
  | leaf _ => rfl
  | seq s s' q =>
    rcases s with rfl | rfl <;> cases l
theorem HndAll.words : ∀ {sc : List Wd} {es : List PyData}, HndAll (scE sc) es → es = scE sc
  | [], _, .nil => rfl
  | v :: r, _, .cons h q => by
    rw [Hnd.leaf_eq h rfl, HndAll.words (sc := r) q]
    rfl
theorem HndAll.scripts : ∀ {ss : List (List Wd)} {es : List PyData}, HndAll (ss.map fun sc => .tuple (scE sc)) es → Paired (fun sc e => Sq2 e (scE sc)) ss es
  | [], _, .nil => .nil
  | sc :: r, _, .cons h q => by
    obtain ⟨es, s, a⟩ := h.tup
    rw [a.words] at s
    exact .cons s (HndAll.scripts (ss := r) q)
theorem Hnd.scripts {ss : List (List Wd)} {d : PyData} (h : Hnd (scD ss) d) : ScIn ss d := by
  obtain ⟨es, s, a⟩ := Hnd.tup (ds := ss.map fun sc => .tuple (scE sc)) h
  exact ⟨es, s, a.scripts⟩
theorem lev_row (r : Row) : Lev 1 (rowD r) := .tup (by show 4 ≤ 5000000; decide) fun x hx => by
  simp only [List.mem_cons, List.not_mem_nil, or_false] at hx
  rcases hx with rfl | rfl | rfl | rfl
  · exact .int _ _
  · exact .bl _ _
  · exact .bl _ _
  · exact .int _ _
theorem lev_state {xs : List Row} (h : xs.length ≤ 4) : Lev 2 (stD xs) := .tup (by rw [List.length_map]; omega) fun x hx => by
  obtain ⟨r, _, rfl⟩ := List.mem_map.mp hx
  exact lev_row r
theorem lev_scripts {ss : List (List Wd)} (h : ss.length ≤ 4) (ok : ∀ sc ∈ ss, okScr sc) : Lev 2 (scD ss) := .tup (by rw [List.length_map]; omega) fun x hx => by
  obtain ⟨sc, hsc, rfl⟩ := List.mem_map.mp hx
  have := (ok sc hsc).1
  refine .tup (by rw [List.length_map]; omega) fun y hy => ?_
  obtain ⟨v, _, rfl⟩ := List.mem_map.mp hy
  exact .str _ _

structure Tw (mg : Str → Option Value) : Prop where
  range : mg "range" = none
  repr : mg "repr" = none
theorem pe_misuse {X : Cx} {CE CD CP fI c p : Addr} {k : Nat} {params : Arguments} {body : Expr} {scope : Scope} {t : XK → TE} {pn lpos pos : Pos}
    (D : Df X.K X.mg "_law_misused" sMis ["_law_deed"]) (T3 : Cls3 X.K X.mg CE CD CP fI) (hisi : X.mg "isinstance" = none) (hg : Gl X "_law_misused") (TB : LamX.TabB X.base X.mg c p) (hcode : X.env.code = .ref c)
    (hr : Room (k + 2) X.A) (L : LamX.LamS X.env.scope scope) (hdef : defaultsOf params X.env = ([], []))
    (hbind : ∀ (q : Str) (cl : List (Str × Addr)) (pm cv ctv : Value), bindArgs (PySem.W.kla_fn "<lambda>" q params body scope cl pm cv ctv) ⟨[], []⟩ = pure [])
    (hbody : ∀ (A : Around) (outer : List Env) (s : Shared) (H : Hp) (E : XK) (f c' : Addr), Room k (A.deeper (LamX.lamEnv X scope s.heap.objs.size f c')) → PE (LamX.lamCx X A outer s H E scope f c') body (t E)) :
    PE X (.Call (.Name "_law_misused" pn) [.Lambda params body scope lpos] [] pos) (LamX.tLam [(p, X.env.qual ++ "<lambda>")] (TMis CP) t) := by
  obtain ⟨g, fd, F, hb, hm⟩ := D
  obtain ⟨oc, od, kV, doc, pm, an, cdv, ct, osl, rfl, lk, hcd⟩ := F.ex
  exact LamX.pe_lamcall (k := k) hg hm F.kp lk hcd hb scMis rfl (.inl rfl) (mis_gives T3 hisi) TB hcode (List.mem_singleton.mpr rfl) (fun q hq _ => by rw [List.mem_singleton.mp hq]) hr L hdef hbind hbody

/-- a def that may raise, held by a variable -/
structure HeldX (P : Program) (w : World) (K : PySem.W.Frag) (mg : Str → Option Value) (base : Heap) (k : Nat) (f : Addr) (sp : Sp) : Prop where
  ex : ∃ (fd : FuncData) (ps : List Str), FnOk P w K mg base (L2.CX P w) k f fd ps sp ∧ PySem.W.keepIn K (.ref f) = true ∧ Binds K fd ps []
def tCallAX (i : Nat) (S : Addr → Prop) (sp : Sp) (E : L2.St → XK) (t : TA) : TE := fun σ H Q => ∃ f, σ[i]? = some (some (.ref f)) ∧ S f ∧ t σ H fun vs H1 => sp vs H1 Q (E σ)
theorem pe_callAX {X : Cx} {W : WX} {S : Addr → Prop} {k i : Nat} {sp : Sp} {x : Str} {e : Expr} {es : List Expr} {t : TA} {p pos : Pos} (A : ∀ f, S f → HeldX X.prog X.w X.K X.mg X.base k f sp) (hr : Room k X.A) (tk : Takes X W)
    (hN : X.N[i]? = some x) (hv : Vis X.env.scope x) (ha : PA X (e :: es) t) (hdb : (x == ("__debug__" : Str)) = false := by decide) (hcd : (x == ("__classdict__" : Str)) = false := by decide)
    (he : starEach (e :: es) X.env = (false, eval e X.env) :: starEach es X.env := by rfl) (hpl : (backTo pos (starEach es X.env)).any (·.1) = false := by rfl) : PE X (.Call (.Name x p) (e :: es) [] pos) (tCallAX i S sp (WE W) t) := by
  refine ⟨fun pins s0 σ H0 Q I h => ?_⟩
  obtain ⟨g, hs, hS, ht⟩ := h
  obtain ⟨fd, ps, F, hk, hb⟩ := (A g hS).ex
  have look := (pe_var (pos := p) hN hv hdb hcd).run pins s0 σ H0 (fun y H1 => y = .ref g ∧ H1 = H0) I ⟨.ref g, hs, rfl, rfl⟩
  refine wpAny_Call_Name_kw (thn look fun u s1 ⟨y, H1, I1, r1, q1, q2⟩ => ?_)
  subst q1 q2
  cases r1
  refine PySem.W.callWith_K (h₀ := X.base) I.ok.mod.kin hk ?_ he hpl
  refine thn (ha.run pos pins s1 σ _ _ I1 ht) fun us s2 ⟨vs, H2, I2, r, q⟩ => ⟨I2.kIn, ?_⟩
  exact run_fnS (E := WE W) F hr hb (passAt tk σ) I2 r q
/-- may be shown -/
def Shx (n W : Nat) (d : PyData) : Prop := d.showable = true ∧ d.leavesShort 20 = true ∧ d.depth ≤ n ∧ d.weight ≤ W
theorem Shx.all {n W : Nat} : ∀ {ds : List PyData}, (∀ x ∈ ds, Shx n W x) → PyData.showableAll ds = true ∧ PyData.leavesShortAll 20 ds = true ∧ PyData.depthAll ds ≤ n ∧ PyData.weightAll ds ≤ ds.length * (W + 1)
  | [], _ => ⟨rfl, rfl, Nat.zero_le _, Nat.zero_le _⟩
  | x :: r, h => by
    obtain ⟨a1, a3, a4, a5⟩ := h x (List.mem_cons_self ..)
    obtain ⟨b1, b3, b4, b5⟩ := Shx.all (ds := r) fun y hy => h y (List.mem_cons_of_mem _ hy)
    refine ⟨?_, ?_, ?_, ?_⟩
    · simp only [PyData.showableAll, a1, b1, Bool.and_self]
    · simp only [PyData.leavesShortAll, a3, b3, Bool.and_self]
    · simp only [PyData.depthAll]
      omega
    · simp only [PyData.weightAll, List.length_cons, Nat.add_mul, Nat.one_mul]
      omega
theorem Shx.sq {n W L : Nat} {d : PyData} {ds : List PyData} (s : Sq2 d ds) (hl : ds.length ≤ L) (h : ∀ x ∈ ds, Shx n W x) : Shx (n + 1) (L * (W + 1)) d := by
  obtain ⟨b1, b3, b4, b5⟩ := Shx.all h
  have b6 : ds.length * (W + 1) ≤ L * (W + 1) := Nat.mul_le_mul_right _ hl
  rcases s with rfl | rfl
  · refine ⟨by simpa only [PyData.showable] using b1, by simpa only [PyData.leavesShort] using b3, ?_, ?_⟩
    · simp only [PyData.depth]
      omega
    · simp only [PyData.weight]
      omega
  · refine ⟨by simpa only [PyData.showable] using b1, by simpa only [PyData.leavesShort] using b3, ?_, ?_⟩
    · simp only [PyData.depth]
      omega
    · simp only [PyData.weight]
      omega
theorem Shx.mono {n m W V : Nat} {d : PyData} (h : Shx n W d) (a : n ≤ m) (b : W ≤ V) : Shx m V d := ⟨h.1, h.2.1, Nat.le_trans h.2.2.1 a, Nat.le_trans h.2.2.2 b⟩
theorem w1_sh {d : PyData} (h : w1b d = true) : Shx 2 60 d := by
  unfold w1b at h
  simp only [Bool.and_eq_true, decide_eq_true_eq] at h
  exact ⟨h.1.1.1, h.1.1.2, h.1.2, h.2⟩
theorem leaf_or {d : PyData} : (∃ ds, Sq2 d ds) ∨ isLT d = false := by
  cases d <;> first | exact .inl ⟨_, .inl rfl⟩ | exact .inl ⟨_, .inr rfl⟩ | exact .inr rfl
theorem z1_leaf {n : Nat} {d : PyData} (h : isLT d = false) : z1b n d = w1b d := by
  cases d <;> first | rfl | cases h
theorem z2_leaf {n : Nat} {d : PyData} (h : isLT d = false) : z2b n d = w1b d := by
  cases d <;> first | rfl | cases h
theorem z1_sh {n : Nat} {d : PyData} (hn : n ≤ 12) (h : z1b n d = true) : Shx 3 732 d := by
  rcases leaf_or (d := d) with ⟨ds, s⟩ | e
  · rw [z1_sq s, Bool.and_eq_true_iff] at h
    have hl : ds.length ≤ 12 := Nat.le_trans (of_decide_eq_true h.1) hn
    exact Shx.sq (n := 2) (W := 60) (L := 12) s hl fun x hx => w1_sh (List.all_eq_true.mp h.2 x hx)
  · rw [z1_leaf e] at h
    exact (w1_sh h).mono (by decide) (by decide)
theorem z2_sh {n : Nat} {d : PyData} (hn : n ≤ 12) (h : z2b n d = true) : Shx 4 3665 d := by
  rcases leaf_or (d := d) with ⟨ds, s⟩ | e
  · rw [z2_sq s, Bool.and_eq_true_iff] at h
    exact Shx.sq (n := 3) (W := 732) (L := 5) s (of_decide_eq_true h.1) fun x hx => z1_sh hn (List.all_eq_true.mp h.2 x hx)
  · rw [z2_leaf e] at h
    exact (w1_sh h).mono (by decide) (by decide)
theorem z2_sz {n : Nat} {d : PyData} (hn : n ≤ 12) (h : z2b n d = true) : ∀ ds, Sq2 d ds → ds.length ≤ 1000 ∧ ∀ e ∈ ds, ∀ es, Sq2 e es → es.length ≤ 1000 := fun ds s => by
  rw [z2_sq s, Bool.and_eq_true_iff] at h
  refine ⟨Nat.le_trans (of_decide_eq_true h.1) (by decide), fun e he es s2 => ?_⟩
  have q := List.all_eq_true.mp h.2 e he
  rw [z1_sq s2, Bool.and_eq_true_iff] at q
  exact Nat.le_trans (of_decide_eq_true q.1) (by omega)
theorem z2_repr {K : PySem.W.Frag} {n : Nat} {m : Addr} {H : Hp} {x : V} {d : PyData} {Q : VK} (hn : n ≤ 12) (h : z2b n d = true) (ha : Ax m H x d) (q : Q (.str d.shown) H) : rReprX K [x] H Q := by
  obtain ⟨a1, a3, a4, a5⟩ := z2_sh hn h
  refine ⟨m, x, d, rfl, ha, a1, by omega, ?_, q⟩
  have := PyData.shown_le 20 (by decide) d a3
  exact Nat.le_of_lt (small6 (by omega))
theorem sc_z2 {ss : List (List Wd)} {d : PyData} (h : ScIn ss d) (l4 : ss.length ≤ 4) (ok : ∀ sc ∈ ss, okScr sc) : z2b 9 d = true := by
  obtain ⟨ds, s, p⟩ := h
  rw [z2_sq s, Bool.and_eq_true_iff]
  refine ⟨decide_eq_true (by rw [← paired_len p]; omega), List.all_eq_true.mpr fun x hx => ?_⟩
  obtain ⟨sc, hsc, sx⟩ := paired_mem p hx
  rw [z1_sq sx, Bool.and_eq_true_iff]
  refine ⟨decide_eq_true ?_, List.all_eq_true.mpr fun y hy => ?_⟩
  · unfold scE
    rw [List.length_map]
    have := (ok sc hsc).1
    omega
  · obtain ⟨v, _, rfl⟩ := List.mem_map.mp hy
    exact word_w v
/-- what stands in a turn -/
structure Hw (T : List (Addr × Str)) (st c : Addr) (ns : List Int) (x y : V) (d e : PyData) (H : Hp) : Prop where
  dr : Drw H st c ns
  tb : Tabs T H
  ax : Ax st H x d
  ay : Ax st H y e
section
variable {T : List (Addr × Str)} {st c : Addr} {ns : List Int} {x y : V} {d e : PyData} {H H' : Hp}
theorem Hw.extN (h : Hw T st c ns x y d e H) (b : ExtN H H') (t : Tabs T H') : Hw T st c ns x y d e H' := ⟨Drw.extN h.dr b, t, Ax.extN b h.ax, Ax.extN b h.ay⟩
theorem Hw.same (h : Hw T st c ns x y d e H) (s : Same H H') : Hw T st c ns x y d e H' := ⟨h.dr.same s, h.tb.ext s, h.ax.mono (Same.but s), h.ay.mono (Same.but s)⟩
theorem mis_bad {CP : Addr} {n : Nat} {Q Q' : VK} {H1 : Hp} {rest : List V} (h : Hw T st c ns x y d e H) (hz : z2b n d = true) (hn : n ≤ 12) (hsc : areScr d = false) (e1 : ExtN H H1) (t1 : Tabs T H1) (k : ∀ H', ExtN H H' → Tabs T H' → Q (.bl true) H') {j : Nat} (hj : rest.length = j) :
    spBad CP j (x :: rest) H1 Q' (fun cls d' H' => ∃ dd, cls = .ref CP ∧ d' = some dd ∧ H' dd = some (.xd [(fld, .non)]) ∧ Q (.bl true) H') := by
  have h1 := h.extN e1 t1
  obtain ⟨o, hst⟩ := h1.dr.at
  refine ⟨st, x, o, d, rest, rfl, hj, hst, h1.ax, z2_sz hn hz, hsc, fun dd H' s' q => ?_⟩
  exact ⟨dd, rfl, rfl, q, k H' (e1.trans (ExtN.of s')) (t1.ext s')⟩
theorem mis_bad3 {CP : Addr} {n : Nat} {Q' : VK} {E : XK} {H1 : Hp} {rest : List V} {j : Nat} (h : Hw T st c ns x y d e H) (hz : z2b n d = true) (hn : n ≤ 12) (hsc : areScr d = false) (e1 : ExtN H H1) (t1 : Tabs T H1) (hj : rest.length = j)
    (hE : ∀ (dd : Addr) (H' : Hp), H' dd = some (.xd [(fld, .non)]) → ExtN H H' → Tabs T H' → E (.ref CP) (some dd) H') : spBad CP j (x :: rest) H1 Q' E := by
  have h1 := h.extN e1 t1
  obtain ⟨o, hst⟩ := h1.dr.at
  exact ⟨st, x, o, d, rest, rfl, hj, hst, h1.ax, z2_sz hn hz, hsc, fun dd H' s' q => hE dd H' q (e1.trans (ExtN.of s')) (t1.ext s')⟩
end
abbrev lamT (p : Addr) : List (Addr × Str) := [(p, (PyProof.Rows.envOfC "law" (defScope sLaw) 0 0 Value.none).qual ++ "<lambda>")]
section
variable {P : Program} {w : World} {K : PySem.W.Frag} {mg : Str → Option Value} {base : Heap}

variable {CE CD CP fI : Addr}
def spLaw (K : PySem.W.Frag) (p : Addr) : Sp := fun vs H Q _ => ∃ (a : Addr) (ns : List Int), vs = [.ref a] ∧ SqL K H a (ns.map V.int) ∧ ns.length ≤ 63 ∧ H p = some (.tbl #[]) ∧ ∀ H', Q (.bl true) H'
theorem ok_law {f c p : Addr} {fd : FuncData} (F : Fun K "law" "law" sLaw f fd) (hcv : fd.code = .ref c) (TB : LamX.TabB base mg c p) (T : Ty mg) (T1 : Tw mg) (T3 : Cls3 K mg CE CD CP fI) (DM : Df K mg "_law_misused" sMis ["_law_deed"])
    (PF : Pr P w K mg base 1 "_law_fresh" ["_law_script_here"] (spFresh K)) (PT : Pr P w K mg base 2 "_law_take" ["_law_state", "_law_many"] spTake) (PSc : Pr P w K mg base 5 "_law_scripts" ["_law_state", "_law_most", "_law_many"] spScripts)
    (PH : Pr P w K mg base 5 "_law_handed" ["_law_state", "_law_thing"] (spHanded 2)) (PB : Pr P w K mg base 1 "_law_begun" ["_law_scripts_here"] spBgX) (PS : Pr P w K mg base 3 "_law_same" ["_law_found", "_law_due"] (spSame 2))
    (PBe : Pr P w K mg base 5 "_law_bent" ["_law_state", "_law_thing"] spBent) (PO : Pr P w K mg base 3 "_law_odd" ["_law_state"] spOddX) (PA : Pr P w K mg base 2 "_law_are_scripts" ["_law_thing"] spLAre)
    (PFi : PrX P w K mg base 4 "first_state" ["scripts"] (spFsX CP)) (PN : PrX P w K mg base 4 "next_state" ["scripts", "state", "at"] (spBad CP 2))
    (PA1 : PrX P w K mg base 4 "first_state" ["scripts"] (spBad CP 0))
    (PA2 : PrX P w K mg base 4 "refusal" ["scripts"] (spBad CP 0))
    (PA3 : PrX P w K mg base 4 "stuck" ["scripts"] (spBad CP 0))
    (PA4 : PrX P w K mg base 4 "calmed" ["scripts"] (spBad CP 0))
    (PB1 : PrX P w K mg base 4 "is_order" ["scripts", "order"] (spBad CP 1))
    (PB2 : PrX P w K mg base 5 "is_never" ["scripts", "states"] (spBad CP 1))
    (PB3 : PrX P w K mg base 4 "is_stuck" ["scripts", "order"] (spBad CP 1))
    (PB4 : PrX P w K mg base 5 "is_free" ["scripts", "states"] (spBad CP 1)) : FnG P w K mg base 8 f fd ["_law_script_here"] (spLaw K p) := by
  refine Fun.okH F scLaw hcv (fun vs H Q E h => ?_) (fun Ar outer s H vs Q E hgd hr h => ?_)
  · obtain ⟨a, ns, rfl, _⟩ := h
    rfl
  · obtain ⟨a, ns, rfl, hS, hlen, htab, k⟩ := h
    have nd := scLaw.nd
    have hr1 := hr.mono (show 1 ≤ 7 by decide)
    have hr2 := hr.mono (show 2 ≤ 7 by decide)
    have hr3 := hr.mono (show 3 ≤ 7 by decide)
    have hr4 := hr.mono (show 4 ≤ 7 by decide)
    have hr5 := hr.mono (show 5 ≤ 7 by decide)
    obtain ⟨fA1, fdA1, FA1, gA1, kpA1, bA1⟩ := PA1
    obtain ⟨fA2, fdA2, FA2, gA2, kpA2, bA2⟩ := PA2
    obtain ⟨fA3, fdA3, FA3, gA3, kpA3, bA3⟩ := PA3
    obtain ⟨fA4, fdA4, FA4, gA4, kpA4, bA4⟩ := PA4
    obtain ⟨fB1, fdB1, FB1, gB1, kpB1, bB1⟩ := PB1
    obtain ⟨fB2, fdB2, FB2, gB2, kpB2, bB2⟩ := PB2
    obtain ⟨fB3, fdB3, FB3, gB3, kpB3, bB3⟩ := PB3
    obtain ⟨fB4, fdB4, FB4, gB4, kpB4, bB4⟩ := PB4
    obtain ⟨SA, hSA⟩ : ∃ SA : Addr → Prop, SA = fun g => g = fA1 ∨ g = fA2 ∨ g = fA3 ∨ g = fA4 := ⟨_, rfl⟩
    obtain ⟨SB, hSB⟩ : ∃ SB : Addr → Prop, SB = fun g => g = fB1 ∨ g = fB2 ∨ g = fB3 ∨ g = fB4 := ⟨_, rfl⟩
    have hA : ∀ g, SA g → HeldX P w K mg base 5 g (spBad CP 0) := fun g hg => by
      subst hSA
      rcases hg with rfl | rfl | rfl | rfl
      · exact ⟨fdA1, _, FA1.mono (by decide), kpA1, bA1⟩
      · exact ⟨fdA2, _, FA2.mono (by decide), kpA2, bA2⟩
      · exact ⟨fdA3, _, FA3.mono (by decide), kpA3, bA3⟩
      · exact ⟨fdA4, _, FA4.mono (by decide), kpA4, bA4⟩
    have hB : ∀ g, SB g → HeldX P w K mg base 5 g (spBad CP 1) := fun g hg => by
      subst hSB
      rcases hg with rfl | rfl | rfl | rfl
      · exact ⟨fdB1, _, FB1.mono (by decide), kpB1, bB1⟩
      · exact ⟨fdB2, _, FB2.mono (by decide), kpB2, bB2⟩
      · exact ⟨fdB3, _, FB3.mono (by decide), kpB3, bB3⟩
      · exact ⟨fdB4, _, FB4.mono (by decide), kpB4, bB4⟩
    refine ⟨_, (pss_cons (ps_asg (pe_callP PF hr1 (by rfl) (pa_cons (pv 0) pa_nil)) (pg_name (i := 1) nd rfl (Or.inl rfl)))
      (pss_cons (ps_for PassesOwn.never rfl (pi_range1 rfl T1.range (pa_cons pe_int pa_nil)) (pg_name (i := 2) nd rfl (Or.inl rfl))
        (pss_cons (ps_asg (pe_callP PH hr5 (by rfl) (pa_cons (pv 1) (pa_cons (pe_callP PSc hr5 (by rfl) (pa_cons (pv 1) (pa_cons pe_int (pa_cons pe_int pa_nil)))) pa_nil))) (pg_name (i := 8) nd rfl (Or.inr rfl)))
        (pss_cons (ps_for PassesOwn.never rfl (pi_range1 rfl T1.range (pa_cons (pe_callP PT hr2 (by rfl) (pa_cons (pv 1) (pa_cons pe_int pa_nil))) pa_nil)) (pg_name (i := 3) nd rfl (Or.inl rfl))
          (pss_one (ps_asg (pe_callP PBe hr5 (by rfl) (pa_cons (pv 1) (pa_cons (pv 8) pa_nil))) (pg_name (i := 8) nd rfl (Or.inr rfl)))))
        (pss_cons (ps_asg (pe_tup (pa_cons (pe_callB (call_reprX hgd hr.units) (by rfl) T1.repr (by decide +kernel) (pa_cons (pv 8) pa_nil)) (pa_cons (pe_callP PO hr3 (by rfl) (pa_cons (pv 1) pa_nil)) pa_nil))) (pg_tup rfl (pgs_cons (pg_name (i := 4) nd rfl (Or.inl rfl)) (pgs_cons (pg_name (i := 7) nd rfl (Or.inr rfl)) pgs_nil))))
        (Evl.pss_cut (ps_if (pt_val (pe_callP PA hr2 (by rfl) (pa_cons (pv 8) pa_nil)))
          (pss_one (ps_if (pt_not (pt_val (pe_callP PS hr3 (by rfl) (pa_cons (pe_callP PFi.calm hr4 (by rfl) (pa_cons (pv 8) pa_nil)) (pa_cons (pe_callP PB hr1 (by rfl) (pa_cons (pv 8) pa_nil)) pa_nil)))))
            (pss_one (ps_ret pe_bl))
            pss_nil))
          (pss_cons (ps_for PassesOwn.never rfl (pi_tup (pe_tup (pa_cons (pe_gR rfl gA1) (pa_cons (pe_gR rfl gA2) (pa_cons (pe_gR rfl gA3) (pa_cons (pe_gR rfl gA4) pa_nil)))))) (pg_name (i := 5) nd rfl (Or.inr rfl))
            (pss_one (ps_if (pt_not (pt_val (pe_misuse DM T3 T.isinstance (by rfl) TB rfl (k := 5) hr (LamX.lamS_by (sc := defScope sLaw) (by decide +kernel)) rfl (fun _ _ _ _ _ => rfl) (fun A outer s H E f c' hr' => pe_callAX (S := SA) (sp := spBad CP 0) (i := 5) hA hr' (takes_of rfl rfl rfl rfl) rfl (by first | exact .inl rfl | exact .inr (.inl rfl) | exact .inr (.inr rfl)) (pa_cons (pv 8) pa_nil)))))
              (pss_one (ps_ret pe_bl))
              pss_nil)))
          (pss_cons (ps_for PassesOwn.never rfl (pi_tup (pe_tup (pa_cons (pe_gR rfl gB1) (pa_cons (pe_gR rfl gB2) (pa_cons (pe_gR rfl gB3) (pa_cons (pe_gR rfl gB4) pa_nil)))))) (pg_name (i := 6) nd rfl (Or.inr rfl))
            (pss_one (ps_if (pt_not (pt_val (pe_misuse DM T3 T.isinstance (by rfl) TB rfl (k := 5) hr (LamX.lamS_by (sc := defScope sLaw) (by decide +kernel)) rfl (fun _ _ _ _ _ => rfl) (fun A outer s H E f c' hr' => pe_callAX (S := SB) (sp := spBad CP 1) (i := 6) hB hr' (takes_of rfl rfl rfl rfl) rfl (by first | exact .inl rfl | exact .inr (.inl rfl) | exact .inr (.inr rfl)) (pa_cons (pv 8) (pa_cons (pv 7) pa_nil))))))
              (pss_one (ps_ret pe_bl))
              pss_nil)))
          (pss_one (ps_if (pt_not (pt_val (pe_misuse DM T3 T.isinstance (by rfl) TB rfl (k := 5) hr (LamX.lamS_by (sc := defScope sLaw) (by decide +kernel)) rfl (fun _ _ _ _ _ => rfl) (fun A outer s H E f c' hr' => pe_callPX PN (hr'.mono (by decide)) (by rfl) (takes_of rfl rfl rfl rfl) (pa_cons (pv 8) (pa_cons (pv 7) (pa_cons pe_int pa_nil)))))))
            (pss_one (ps_ret pe_bl))
            pss_nil)))))
        (pss_one (ps_if (pt_cmpR op_ne (pe_callB (call_reprX hgd hr.units) (by rfl) T1.repr (by decide +kernel) (pa_cons (pv 8) pa_nil)) (pv 4) (nomark _))
          (pss_one (ps_ret pe_bl))
          pss_nil)))))))
      (pss_one (ps_ret pe_bl)))), ?_⟩
    refine ⟨_, rfl, a, ns, rfl, hS, hlen, fun st c' H1 nst nc dr sm => ?_⟩
    have tb1 : Tabs (lamT p) H1 := fun q hq => by
      rw [List.mem_singleton.mp hq]
      exact TabS.nil (sm _ _ htab)
    refine ⟨_, rfl, by decide, by decide, ?_⟩
    refine for_range (fun i σ H2 => (∃ o2 o3 o4 o5 o6 o7 o8, σ = [some (.ref a), some (.ref st), o2, o3, o4, o5, o6, o7, o8]) ∧ Drw H2 st c' ns ∧ Tabs (lamT p) H2) ⟨⟨_, _, _, _, _, _, _, rfl⟩, dr, tb1⟩ ?_ ?_
    · rintro i σ H2 hi ⟨⟨o2, o3, o4, o5, o6, o7, o8, rfl⟩, d2, tb2⟩
      -- the thing
      refine ⟨_, rfl, _, rfl, st, c', ns, 4, 8, rfl, d2, hlen, by decide, by decide, by decide, fun ss A H3 l1 l4 ok aA3 d3 b3 => ?_⟩
      have tb3 := Tabs.but tb2 d2 b3
      refine ⟨st, c', ns, .ref A, scD ss, rfl, d3, hlen, aA3, lev_scripts l4 ok, fun x dH H4 hn hz d4 b4 => ?_⟩
      obtain ⟨o3', hst3⟩ := d3.at
      have aH4 := (hz _ _ hst3).ax
      have tb4 := Tabs.but tb3 d3 b4
      have z9 : z2b 9 dH = true := sc_z2 hn.scripts l4 ok
      -- something otherwise
      refine ⟨_, rfl, st, c', ns, 4, rfl, d4, hlen, by decide, by decide, fun tk H5 t0 t4 d5 b5 => ?_⟩
      refine ⟨_, rfl, by omega, by omega, ?_⟩
      have tb5 := Tabs.but tb4 d4 b5
      have aH5 := aH4.mono b5
      refine for_range (lo := 0) (n := tk.toNat) (fun j σ H6 => ∃ (o3 : Option V) (x : V) (d : PyData), σ = [some (.ref a), some (.ref st), some (.int (0 + (i : Int))), o3, o4, o5, o6, o7, some x] ∧ Drw H6 st c' ns ∧ Tabs (lamT p) H6 ∧ Ax st H6 x d ∧ z2b (9 + j) d = true) ⟨_, x, dH, rfl, d5, tb5, aH5, z9⟩ ?_ ?_
      · rintro j σ H6 hj ⟨o3, x, d, rfl, d6, tb6, ax6, hz6⟩
        refine ⟨_, rfl, _, rfl, st, c', ns, x, d, 9 + j, rfl, d6, hlen, ax6, hz6, by omega, by omega, fun y d' H7 ay hz7 d7 b7 => ?_⟩
        exact ⟨_, y, d', rfl, d7, Tabs.but tb6 d6 b7, ay, hz7⟩
      · rintro σ H6 ⟨o3, x, d, rfl, d6, tb6, ax6, hz6⟩
        have hz12 : z2b 12 d = true := z2_mono (by omega) hz6
        clear hz6 z9 aH5 aH4 hn hz aA3 tb5 tb4 tb3
        -- kept, odd
        refine ⟨_, rfl, ?_⟩
        dsimp only [tNil]
        refine z2_repr (by decide) hz12 ax6 ?_
        refine ⟨_, rfl, st, c', ns, rfl, d6, hlen, fun y e H7 hd ay7 d7 b7 => ?_⟩
        have tb7 := Tabs.but tb6 d6 b7
        have ax7 := ax6.mono b7
        refine ⟨(by show 2 ≤ sizeLine; decide), fun p1 np1 => ?_⟩
        generalize hp1 : upd H7 p1 _ = H8
        have sp1 : Same H7 H8 := hp1 ▸ Same.new np1
        have ep1 : H8 p1 = some (.tup [.str d.shown, y]) := hp1 ▸ upd_same
        clear hp1
        refine ⟨_, _, rfl, SqT.of ep1, rfl, _, _, rfl, _, _, rfl, rfl, ?_⟩
        have hw8 : Hw (lamT p) st c' ns x y d e H8 := ⟨d7.same sp1, tb7.ext sp1, ax7.mono (Same.but sp1), ay7.mono (Same.but sp1)⟩
        clear ax7 ay7 d7 tb7 ep1
        refine ⟨fun σ' H9 => ∃ o5 o6, σ' = [some (.ref a), some (.ref st), some (.int (0 + (i : Int))), o3, some (.str d.shown), o5, o6, some y, some x] ∧ Hw (lamT p) st c' ns x y d e H9, ?_, ?_⟩
        · refine ⟨_, rfl, st, x, d, rfl, hw8.ax, z2_sz (by decide) hz12, fun H9 s9 => ?_⟩
          have hw9 := hw8.same s9
          refine ⟨_, rfl, ?_⟩
          cases hsc : areScr d
          · -- no scripts
            refine iteF ?_
            refine ⟨(by show 4 ≤ sizeLine; decide), fun p2 np2 => ?_⟩
            generalize hp2 : upd H9 p2 _ = HA
            have sp2 : Same H9 HA := hp2 ▸ Same.new np2
            have ep2 : HA p2 = some (.tup [.ref fA1, .ref fA2, .ref fA3, .ref fA4]) := hp2 ▸ upd_same
            clear hp2
            refine ⟨p2, rfl, ⟨_, SqT.of ep2⟩, ?_⟩
            refine for_it (walk_tup (K := K) (a := p2) (xs := [V.ref fA1, .ref fA2, .ref fA3, .ref fA4])) (fun j σ HB => ∃ o5 o6, σ = [some (.ref a), some (.ref st), some (.int (0 + (i : Int))), o3, some (.str d.shown), o5, o6, some y, some x] ∧ Hw (lamT p) st c' ns x y d e HB ∧ HB p2 = some (.tup [.ref fA1, .ref fA2, .ref fA3, .ref fA4])) ⟨_, _, rfl, hw9.same sp2, ep2⟩ ?_ ?_ ?_
            · rintro j σ HB _ ⟨_, _, _, _, e⟩
              exact SqT.of e
            · rintro j v σ HB' HB hj ⟨o5, o6, rfl, hwB, eB⟩ ⟨rfl, ev⟩
              have hv : ∃ g, v = .ref g ∧ SA g := by
                have := List.mem_of_getElem? ev
                simp only [List.mem_cons, List.not_mem_nil, or_false] at this
                subst hSA
                rcases this with rfl | rfl | rfl | rfl
                · exact ⟨_, rfl, .inl rfl⟩
                · exact ⟨_, rfl, .inr (.inl rfl)⟩
                · exact ⟨_, rfl, .inr (.inr (.inl rfl))⟩
                · exact ⟨_, rfl, .inr (.inr (.inr rfl))⟩
              obtain ⟨g, rfl, hg⟩ := hv
              refine ⟨hwB.tb, fun H1' e1 t1 Q' => ⟨g, rfl, hg, _, rfl, ?_⟩⟩
              dsimp only [tCons, tC, tNil]
              refine mis_bad3 (j := 0) (rest := []) hwB hz12 (by decide) hsc e1 t1 rfl (fun dd HC q eC tC => ⟨dd, rfl, rfl, q, ?_⟩)
              refine ⟨_, rfl, iteF ?_⟩
              exact ⟨_, _, rfl, hwB.extN eC tC, eC _ _ eB (fun _ z => by cases z)⟩
            · rintro σ HB ⟨o5, o6, rfl, hwB, _⟩
              refine ⟨(by show 4 ≤ sizeLine; decide), fun p3 np3 => ?_⟩
              generalize hp3 : upd HB p3 _ = HC
              have sp3 : Same HB HC := hp3 ▸ Same.new np3
              have ep3 : HC p3 = some (.tup [.ref fB1, .ref fB2, .ref fB3, .ref fB4]) := hp3 ▸ upd_same
              clear hp3
              refine ⟨p3, rfl, ⟨_, SqT.of ep3⟩, ?_⟩
              refine for_it (walk_tup (K := K) (a := p3) (xs := [V.ref fB1, .ref fB2, .ref fB3, .ref fB4])) (fun j σ HD => ∃ o5 o6, σ = [some (.ref a), some (.ref st), some (.int (0 + (i : Int))), o3, some (.str d.shown), o5, o6, some y, some x] ∧ Hw (lamT p) st c' ns x y d e HD ∧ HD p3 = some (.tup [.ref fB1, .ref fB2, .ref fB3, .ref fB4])) ⟨_, _, rfl, hwB.same sp3, ep3⟩ ?_ ?_ ?_
              · rintro j σ HD _ ⟨_, _, _, _, e⟩
                exact SqT.of e
              · rintro j v σ HD' HD hj ⟨o5, o6, rfl, hwD, eD⟩ ⟨rfl, ev⟩
                have hv : ∃ g, v = .ref g ∧ SB g := by
                  have := List.mem_of_getElem? ev
                  simp only [List.mem_cons, List.not_mem_nil, or_false] at this
                  subst hSB
                  rcases this with rfl | rfl | rfl | rfl
                  · exact ⟨_, rfl, .inl rfl⟩
                  · exact ⟨_, rfl, .inr (.inl rfl)⟩
                  · exact ⟨_, rfl, .inr (.inr (.inl rfl))⟩
                  · exact ⟨_, rfl, .inr (.inr (.inr rfl))⟩
                obtain ⟨g, rfl, hg⟩ := hv
                refine ⟨hwD.tb, fun H1' e1 t1 Q' => ⟨g, rfl, hg, _, rfl, _, rfl, ?_⟩⟩
                dsimp only [tCons, tC, tNil]
                refine mis_bad3 (j := 1) (rest := [y]) hwD hz12 (by decide) hsc e1 t1 rfl (fun dd HE q eE tE => ⟨dd, rfl, rfl, q, ?_⟩)
                refine ⟨_, rfl, iteF ?_⟩
                exact ⟨_, _, rfl, hwD.extN eE tE, eE _ _ eD (fun _ z => by cases z)⟩
              · rintro σ HD ⟨o5, o6, rfl, hwD, _⟩
                refine ⟨hwD.tb, fun H1' e1 t1 Q' => ⟨_, rfl, _, rfl, ?_⟩⟩
                dsimp only [tCons, tC, tNil]
                refine mis_bad3 (j := 2) (rest := [y, .int 0]) hwD hz12 (by decide) hsc e1 t1 rfl (fun dd HE q eE tE => ⟨dd, rfl, rfl, q, ?_⟩)
                refine ⟨_, rfl, iteF ?_⟩
                exact ⟨_, _, rfl, hwD.extN eE tE⟩
          · -- scripts
            refine iteT ?_
            obtain ⟨o9, hst9⟩ := hw9.dr.at
            refine ⟨_, rfl, st, x, o9, d, rfl, hst9, hw9.ax, z2_sz (by decide) hz12, fun _ q1 HA sA aq1 => ?_, fun z => by rw [hsc] at z; cases z⟩
            have hwA := hw9.same sA
            refine ⟨_, rfl, st, x, o9, d, rfl, sA _ _ hst9, hwA.ax, hsc, fun q2 HB sB aq2 => ?_⟩
            have hwB := hwA.same sB
            refine ⟨st, .ref q1, .ref q2, stD (List.replicate (lenD d) row0), o9, rfl, sB _ _ (sA _ _ hst9), aq1.mono (Same.but (m := st) sB), aq2, lev_state (by rw [List.length_replicate]; exact lenD_le hsc), fun HC sC => ?_⟩
            refine ⟨_, rfl, iteF ?_⟩
            exact ⟨_, _, rfl, hwB.same sC⟩
        · rintro σ' H9 ⟨o5, o6, rfl, hw9⟩
          refine ⟨_, rfl, ?_⟩
          dsimp only [tNil]
          refine z2_repr (by decide) hz12 hw9.ax ?_
          refine ⟨_, rfl, rfl, _, rfl, ?_⟩
          rw [decide_eq_true (show V.str d.shown = V.str d.shown from rfl)]
          refine iteF ?_
          exact ⟨⟨_, _, _, _, _, _, _, rfl⟩, hw9.dr, hw9.tb⟩
    · rintro σ H2 ⟨⟨o2, o3, o4, o5, o6, o7, o8, rfl⟩, d2, tb2⟩
      exact k _
end
end C79

set_option Elab.async false
set_option maxRecDepth 100000
set_option maxHeartbeats 4000000
set_option linter.all false
namespace C79
open PySem L2 My M78
theorem df_mk {K : PySem.W.Frag} {h : Heap} {mg : Str → Option Value} {x : Str} {st : Stmt} {ps : List Str} {f : Addr} {oc : Value} {od an : Option Addr} {osl : Array (Option Value)} {kV doc pm cdv ct : Value} (X : K.In h) (G : h.Ns mainGlobals mg)
    (a : PySem.W.nsIn K mainGlobals x = some (some (.ref f))) (l : K.lookup f = some ⟨oc, od, .func (PySem.W.fnOf x x (defArgs st) (defBody st) (defScope st) .none kV doc pm an cdv ct), osl⟩) (c : PySem.W.codeIn K cdv x = true) (k : PySem.W.keepIn K (.ref f) = true)
    (hb : ∀ (kV doc pm : Value) (an : Option Addr) (cdv ct : Value) (us : List Value), us.length = ps.length → bindArgs (PySem.W.fnOf x x (defArgs st) (defBody st) (defScope st) .none kV doc pm an cdv ct) ⟨us, []⟩ = pure (ps.zip us)) : Df K mg x st ps :=
  ⟨f, _, fun_mk l c k, (fun_mk (st := st) l c k).binds hb, PySem.W.mg_of X G a⟩
/-- what the top says of one class -/
structure One (K : PySem.W.Frag) (C fI : Addr) : Prop where
  oe : OexE K C
  ec : ExcC K C
  no : PySem.W.findIn K (.ref C) fld = some none
  ini : PySem.W.findIn K (.ref C) "__init__" = some (some (.ref fI))
theorem one_mk {K : PySem.W.Frag} {C fI N : Addr} {nm q : Str} {bs bm sub : List Value} {sn : List Str} {ab : Bool} {col : Option Bool} {dd : Option Addr} {k0 k1 k2 k3 k5 : Option Value}
    (l : K.lookup C = some (excClassObj nm q C N bs bm true sn sub ab col dd k0 k1 k2 k3 k5 "Exception.__new__")) (r : PySem.MyX.refsX bm = true) (sa : PySem.W.findIn K (.ref C) "__setattr__" = some (some (.builtin "object.__setattr__")))
    (ex : PySem.W.subIn K (.ref C) (.type "BaseException") = some true) (ty : PySem.W.typeIn K (.ref C) = some (.type "type")) (kc : PySem.W.keepIn K (.ref C) = true)
    (hg : PySem.W.findIn K (.ref C) "__getattribute__" = some (some (.builtin "BaseException.__getattribute__"))) (hk : PySem.W.findIn K (.ref C) "__getattr__" = some none) (hd : PySem.W.hasDictIn K C = true)
    (ha : PySem.W.findIn K (.ref C) "__class__" = some (some (.builtin "object.__class__"))) (hm : PySem.W.mroIn K C (.type "object") = some true)
    (hn : PySem.W.specialIn K (.builtin "object.__class__") "__get__" = some (some (.builtin "getset_descriptor.__get__"))) (ht : PySem.W.takesIn K (.builtin "object.__class__") = some true)
    (no : PySem.W.findIn K (.ref C) fld = some none) (ini : PySem.W.findIn K (.ref C) "__init__" = some (some (.ref fI))) : One K C fI :=
  ⟨⟨⟨nm, q, N, bs, bm, sn, sub, ab, col, dd, k0, k1, k2, k3, k5, l, r⟩, sa, ex, ty, kc⟩, ⟨hg, hk, ex, hd, ha, hn, ht, hm⟩, no, ini⟩
theorem kit_sub {K : PySem.W.Frag} {A C fI : Addr} {b : Bool} (o : One K C fI) (sc : PySem.W.subIn K (.ref C) (.ref C) = some true) (s : PySem.W.subIn K (.ref A) (.ref C) = some b) : PySem.W.kitOne K (.ref A) (.ref C) = some b := by
  unfold PySem.W.kitOne
  by_cases e : A = C
  · subst e
    rw [sc] at s
    cases s
    rw [if_pos (by simp)]
  · rw [if_neg (by simp [e])]
    obtain ⟨cd, hc, _⟩ := PySem.W.any_some o.ec.hd
    show (if ((PySem.W.clsIn K C).isSome && PySem.W.typeIn K (.ref C) == some (.type "type")) = true then _ else _) = some b
    rw [if_pos (by rw [hc, o.oe.tyC]; rfl)]
    exact s
theorem all_mk {l : PySem.W.OpenLaw} {w : World} {K : PySem.W.Frag} {h : Heap} {mg : Str → Option Value} {fa cc pp : Addr} {f0 : Addr} {oc0 kV0 dc0 pm0 cd0 ct0 : Value} {od0 an0 : Option Addr} {sl0 : Array (Option Value)} {f1 : Addr} {oc1 kV1 dc1 pm1 cd1 ct1 : Value} {od1 an1 : Option Addr} {sl1 : Array (Option Value)} {f2 : Addr} {oc2 kV2 dc2 pm2 cd2 ct2 : Value} {od2 an2 : Option Addr} {sl2 : Array (Option Value)} {f3 : Addr} {oc3 kV3 dc3 pm3 cd3 ct3 : Value} {od3 an3 : Option Addr} {sl3 : Array (Option Value)} {f4 : Addr} {oc4 kV4 dc4 pm4 cd4 ct4 : Value} {od4 an4 : Option Addr} {sl4 : Array (Option Value)} {f5 : Addr} {oc5 kV5 dc5 pm5 cd5 ct5 : Value} {od5 an5 : Option Addr} {sl5 : Array (Option Value)} {f6 : Addr} {oc6 kV6 dc6 pm6 cd6 ct6 : Value} {od6 an6 : Option Addr} {sl6 : Array (Option Value)} {f7 : Addr} {oc7 kV7 dc7 pm7 cd7 ct7 : Value} {od7 an7 : Option Addr} {sl7 : Array (Option Value)} {f8 : Addr} {oc8 kV8 dc8 pm8 cd8 ct8 : Value} {od8 an8 : Option Addr} {sl8 : Array (Option Value)} {f9 : Addr} {oc9 kV9 dc9 pm9 cd9 ct9 : Value} {od9 an9 : Option Addr} {sl9 : Array (Option Value)} {f10 : Addr} {oc10 kV10 dc10 pm10 cd10 ct10 : Value} {od10 an10 : Option Addr} {sl10 : Array (Option Value)} {f11 : Addr} {oc11 kV11 dc11 pm11 cd11 ct11 : Value} {od11 an11 : Option Addr} {sl11 : Array (Option Value)} {f12 : Addr} {oc12 kV12 dc12 pm12 cd12 ct12 : Value} {od12 an12 : Option Addr} {sl12 : Array (Option Value)} {f13 : Addr} {oc13 kV13 dc13 pm13 cd13 ct13 : Value} {od13 an13 : Option Addr} {sl13 : Array (Option Value)} {f14 : Addr} {oc14 kV14 dc14 pm14 cd14 ct14 : Value} {od14 an14 : Option Addr} {sl14 : Array (Option Value)} {f15 : Addr} {oc15 kV15 dc15 pm15 cd15 ct15 : Value} {od15 an15 : Option Addr} {sl15 : Array (Option Value)} {f16 : Addr} {oc16 kV16 dc16 pm16 cd16 ct16 : Value} {od16 an16 : Option Addr} {sl16 : Array (Option Value)} {f17 : Addr} {oc17 kV17 dc17 pm17 cd17 ct17 : Value} {od17 an17 : Option Addr} {sl17 : Array (Option Value)} {f18 : Addr} {oc18 kV18 dc18 pm18 cd18 ct18 : Value} {od18 an18 : Option Addr} {sl18 : Array (Option Value)} {f19 : Addr} {oc19 kV19 dc19 pm19 cd19 ct19 : Value} {od19 an19 : Option Addr} {sl19 : Array (Option Value)} {f20 : Addr} {oc20 kV20 dc20 pm20 cd20 ct20 : Value} {od20 an20 : Option Addr} {sl20 : Array (Option Value)} {f21 : Addr} {oc21 kV21 dc21 pm21 cd21 ct21 : Value} {od21 an21 : Option Addr} {sl21 : Array (Option Value)} {f22 : Addr} {oc22 kV22 dc22 pm22 cd22 ct22 : Value} {od22 an22 : Option Addr} {sl22 : Array (Option Value)} {f23 : Addr} {oc23 kV23 dc23 pm23 cd23 ct23 : Value} {od23 an23 : Option Addr} {sl23 : Array (Option Value)} {f24 : Addr} {oc24 kV24 dc24 pm24 cd24 ct24 : Value} {od24 an24 : Option Addr} {sl24 : Array (Option Value)} {f25 : Addr} {oc25 kV25 dc25 pm25 cd25 ct25 : Value} {od25 an25 : Option Addr} {sl25 : Array (Option Value)} {f26 : Addr} {oc26 kV26 dc26 pm26 cd26 ct26 : Value} {od26 an26 : Option Addr} {sl26 : Array (Option Value)} {f27 : Addr} {oc27 kV27 dc27 pm27 cd27 ct27 : Value} {od27 an27 : Option Addr} {sl27 : Array (Option Value)} {f28 : Addr} {oc28 kV28 dc28 pm28 cd28 ct28 : Value} {od28 an28 : Option Addr} {sl28 : Array (Option Value)} {C0 C1 C2 fI TD : Addr} {ocI kVI dcI pmI cdI ctI : Value} {odI anI oD : Option Addr} {slI sD : Array (Option Value)} {nD : Nat} (X : K.In h) (G : h.Ns mainGlobals mg) (hfa : mg "law" = some (.ref fa)) (hcc : ∀ o fd, h.get? fa = some o → o.data = .func fd → fd.code = .ref cc)
    (a0 : PySem.W.nsIn K mainGlobals "is_list" = some (some (.ref f0))) (l0 : K.lookup f0 = some ⟨oc0, od0, .func (PySem.W.fnOf "is_list" "is_list" (defArgs sIsList) (defBody sIsList) (defScope sIsList) .none kV0 dc0 pm0 an0 cd0 ct0), sl0⟩) (c0 : PySem.W.codeIn K cd0 "is_list" = true) (k0 : PySem.W.keepIn K (.ref f0) = true)
    (a1 : PySem.W.nsIn K mainGlobals "is_script" = some (some (.ref f1))) (l1 : K.lookup f1 = some ⟨oc1, od1, .func (PySem.W.fnOf "is_script" "is_script" (defArgs sIsScript) (defBody sIsScript) (defScope sIsScript) .none kV1 dc1 pm1 an1 cd1 ct1), sl1⟩) (c1 : PySem.W.codeIn K cd1 "is_script" = true) (k1 : PySem.W.keepIn K (.ref f1) = true)
    (a2 : PySem.W.nsIn K mainGlobals "checked" = some (some (.ref f2))) (l2 : K.lookup f2 = some ⟨oc2, od2, .func (PySem.W.fnOf "checked" "checked" (defArgs sChecked) (defBody sChecked) (defScope sChecked) .none kV2 dc2 pm2 an2 cd2 ct2), sl2⟩) (c2 : PySem.W.codeIn K cd2 "checked" = true) (k2 : PySem.W.keepIn K (.ref f2) = true)
    (a3 : PySem.W.nsIn K mainGlobals "first_state" = some (some (.ref f3))) (l3 : K.lookup f3 = some ⟨oc3, od3, .func (PySem.W.fnOf "first_state" "first_state" (defArgs sFirst) (defBody sFirst) (defScope sFirst) .none kV3 dc3 pm3 an3 cd3 ct3), sl3⟩) (c3 : PySem.W.codeIn K cd3 "first_state" = true) (k3 : PySem.W.keepIn K (.ref f3) = true)
    (a4 : PySem.W.nsIn K mainGlobals "refusal" = some (some (.ref f4))) (l4 : K.lookup f4 = some ⟨oc4, od4, .func (PySem.W.fnOf "refusal" "refusal" (defArgs sRfs) (defBody sRfs) (defScope sRfs) .none kV4 dc4 pm4 an4 cd4 ct4), sl4⟩) (c4 : PySem.W.codeIn K cd4 "refusal" = true) (k4 : PySem.W.keepIn K (.ref f4) = true)
    (a5 : PySem.W.nsIn K mainGlobals "stuck" = some (some (.ref f5))) (l5 : K.lookup f5 = some ⟨oc5, od5, .func (PySem.W.fnOf "stuck" "stuck" (defArgs sStk) (defBody sStk) (defScope sStk) .none kV5 dc5 pm5 an5 cd5 ct5), sl5⟩) (c5 : PySem.W.codeIn K cd5 "stuck" = true) (k5 : PySem.W.keepIn K (.ref f5) = true)
    (a6 : PySem.W.nsIn K mainGlobals "calmed" = some (some (.ref f6))) (l6 : K.lookup f6 = some ⟨oc6, od6, .func (PySem.W.fnOf "calmed" "calmed" (defArgs sCmd) (defBody sCmd) (defScope sCmd) .none kV6 dc6 pm6 an6 cd6 ct6), sl6⟩) (c6 : PySem.W.codeIn K cd6 "calmed" = true) (k6 : PySem.W.keepIn K (.ref f6) = true)
    (a7 : PySem.W.nsIn K mainGlobals "is_order" = some (some (.ref f7))) (l7 : K.lookup f7 = some ⟨oc7, od7, .func (PySem.W.fnOf "is_order" "is_order" (defArgs sIsO) (defBody sIsO) (defScope sIsO) .none kV7 dc7 pm7 an7 cd7 ct7), sl7⟩) (c7 : PySem.W.codeIn K cd7 "is_order" = true) (k7 : PySem.W.keepIn K (.ref f7) = true)
    (a8 : PySem.W.nsIn K mainGlobals "is_stuck" = some (some (.ref f8))) (l8 : K.lookup f8 = some ⟨oc8, od8, .func (PySem.W.fnOf "is_stuck" "is_stuck" (defArgs sIsS) (defBody sIsS) (defScope sIsS) .none kV8 dc8 pm8 an8 cd8 ct8), sl8⟩) (c8 : PySem.W.codeIn K cd8 "is_stuck" = true) (k8 : PySem.W.keepIn K (.ref f8) = true)
    (a9 : PySem.W.nsIn K mainGlobals "next_state" = some (some (.ref f9))) (l9 : K.lookup f9 = some ⟨oc9, od9, .func (PySem.W.fnOf "next_state" "next_state" (defArgs sNxt) (defBody sNxt) (defScope sNxt) .none kV9 dc9 pm9 an9 cd9 ct9), sl9⟩) (c9 : PySem.W.codeIn K cd9 "next_state" = true) (k9 : PySem.W.keepIn K (.ref f9) = true)
    (a10 : PySem.W.nsIn K mainGlobals "is_never" = some (some (.ref f10))) (l10 : K.lookup f10 = some ⟨oc10, od10, .func (PySem.W.fnOf "is_never" "is_never" (defArgs sNev) (defBody sNev) (defScope sNev) .none kV10 dc10 pm10 an10 cd10 ct10), sl10⟩) (c10 : PySem.W.codeIn K cd10 "is_never" = true) (k10 : PySem.W.keepIn K (.ref f10) = true)
    (a11 : PySem.W.nsIn K mainGlobals "is_free" = some (some (.ref f11))) (l11 : K.lookup f11 = some ⟨oc11, od11, .func (PySem.W.fnOf "is_free" "is_free" (defArgs sFre) (defBody sFre) (defScope sFre) .none kV11 dc11 pm11 an11 cd11 ct11), sl11⟩) (c11 : PySem.W.codeIn K cd11 "is_free" = true) (k11 : PySem.W.keepIn K (.ref f11) = true)
    (a12 : PySem.W.nsIn K mainGlobals "_law_fresh" = some (some (.ref f12))) (l12 : K.lookup f12 = some ⟨oc12, od12, .func (PySem.W.fnOf "_law_fresh" "_law_fresh" (defArgs sFresh) (defBody sFresh) (defScope sFresh) .none kV12 dc12 pm12 an12 cd12 ct12), sl12⟩) (c12 : PySem.W.codeIn K cd12 "_law_fresh" = true) (k12 : PySem.W.keepIn K (.ref f12) = true)
    (a13 : PySem.W.nsIn K mainGlobals "_law_fill" = some (some (.ref f13))) (l13 : K.lookup f13 = some ⟨oc13, od13, .func (PySem.W.fnOf "_law_fill" "_law_fill" (defArgs sFill) (defBody sFill) (defScope sFill) .none kV13 dc13 pm13 an13 cd13 ct13), sl13⟩) (c13 : PySem.W.codeIn K cd13 "_law_fill" = true) (k13 : PySem.W.keepIn K (.ref f13) = true)
    (a14 : PySem.W.nsIn K mainGlobals "_law_take" = some (some (.ref f14))) (l14 : K.lookup f14 = some ⟨oc14, od14, .func (PySem.W.fnOf "_law_take" "_law_take" (defArgs sTake) (defBody sTake) (defScope sTake) .none kV14 dc14 pm14 an14 cd14 ct14), sl14⟩) (c14 : PySem.W.codeIn K cd14 "_law_take" = true) (k14 : PySem.W.keepIn K (.ref f14) = true)
    (a15 : PySem.W.nsIn K mainGlobals "_law_one" = some (some (.ref f15))) (l15 : K.lookup f15 = some ⟨oc15, od15, .func (PySem.W.fnOf "_law_one" "_law_one" (defArgs sOne) (defBody sOne) (defScope sOne) .none kV15 dc15 pm15 an15 cd15 ct15), sl15⟩) (c15 : PySem.W.codeIn K cd15 "_law_one" = true) (k15 : PySem.W.keepIn K (.ref f15) = true)
    (a16 : PySem.W.nsIn K mainGlobals "_law_same" = some (some (.ref f16))) (l16 : K.lookup f16 = some ⟨oc16, od16, .func (PySem.W.fnOf "_law_same" "_law_same" (defArgs sSame) (defBody sSame) (defScope sSame) .none kV16 dc16 pm16 an16 cd16 ct16), sl16⟩) (c16 : PySem.W.codeIn K cd16 "_law_same" = true) (k16 : PySem.W.keepIn K (.ref f16) = true)
    (a17 : PySem.W.nsIn K mainGlobals "_law_script" = some (some (.ref f17))) (l17 : K.lookup f17 = some ⟨oc17, od17, .func (PySem.W.fnOf "_law_script" "_law_script" (defArgs sScript) (defBody sScript) (defScope sScript) .none kV17 dc17 pm17 an17 cd17 ct17), sl17⟩) (c17 : PySem.W.codeIn K cd17 "_law_script" = true) (k17 : PySem.W.keepIn K (.ref f17) = true)
    (a18 : PySem.W.nsIn K mainGlobals "_law_scripts" = some (some (.ref f18))) (l18 : K.lookup f18 = some ⟨oc18, od18, .func (PySem.W.fnOf "_law_scripts" "_law_scripts" (defArgs sScripts) (defBody sScripts) (defScope sScripts) .none kV18 dc18 pm18 an18 cd18 ct18), sl18⟩) (c18 : PySem.W.codeIn K cd18 "_law_scripts" = true) (k18 : PySem.W.keepIn K (.ref f18) = true)
    (a19 : PySem.W.nsIn K mainGlobals "_law_begun" = some (some (.ref f19))) (l19 : K.lookup f19 = some ⟨oc19, od19, .func (PySem.W.fnOf "_law_begun" "_law_begun" (defArgs sBegun) (defBody sBegun) (defScope sBegun) .none kV19 dc19 pm19 an19 cd19 ct19), sl19⟩) (c19 : PySem.W.codeIn K cd19 "_law_begun" = true) (k19 : PySem.W.keepIn K (.ref f19) = true)
    (a20 : PySem.W.nsIn K mainGlobals "_law_handed" = some (some (.ref f20))) (l20 : K.lookup f20 = some ⟨oc20, od20, .func (PySem.W.fnOf "_law_handed" "_law_handed" (defArgs sHanded) (defBody sHanded) (defScope sHanded) .none kV20 dc20 pm20 an20 cd20 ct20), sl20⟩) (c20 : PySem.W.codeIn K cd20 "_law_handed" = true) (k20 : PySem.W.keepIn K (.ref f20) = true)
    (a21 : PySem.W.nsIn K mainGlobals "_law_misused" = some (some (.ref f21))) (l21 : K.lookup f21 = some ⟨oc21, od21, .func (PySem.W.fnOf "_law_misused" "_law_misused" (defArgs sMis) (defBody sMis) (defScope sMis) .none kV21 dc21 pm21 an21 cd21 ct21), sl21⟩) (c21 : PySem.W.codeIn K cd21 "_law_misused" = true) (k21 : PySem.W.keepIn K (.ref f21) = true)
    (a22 : PySem.W.nsIn K mainGlobals "_law_is_script" = some (some (.ref f22))) (l22 : K.lookup f22 = some ⟨oc22, od22, .func (PySem.W.fnOf "_law_is_script" "_law_is_script" (defArgs sLSc) (defBody sLSc) (defScope sLSc) .none kV22 dc22 pm22 an22 cd22 ct22), sl22⟩) (c22 : PySem.W.codeIn K cd22 "_law_is_script" = true) (k22 : PySem.W.keepIn K (.ref f22) = true)
    (a23 : PySem.W.nsIn K mainGlobals "_law_are_scripts" = some (some (.ref f23))) (l23 : K.lookup f23 = some ⟨oc23, od23, .func (PySem.W.fnOf "_law_are_scripts" "_law_are_scripts" (defArgs sLAre) (defBody sLAre) (defScope sLAre) .none kV23 dc23 pm23 an23 cd23 ct23), sl23⟩) (c23 : PySem.W.codeIn K cd23 "_law_are_scripts" = true) (k23 : PySem.W.keepIn K (.ref f23) = true)
    (a24 : PySem.W.nsIn K mainGlobals "_law_row_of" = some (some (.ref f24))) (l24 : K.lookup f24 = some ⟨oc24, od24, .func (PySem.W.fnOf "_law_row_of" "_law_row_of" (defArgs sRow) (defBody sRow) (defScope sRow) .none kV24 dc24 pm24 an24 cd24 ct24), sl24⟩) (c24 : PySem.W.codeIn K cd24 "_law_row_of" = true) (k24 : PySem.W.keepIn K (.ref f24) = true)
    (a25 : PySem.W.nsIn K mainGlobals "_law_odd" = some (some (.ref f25))) (l25 : K.lookup f25 = some ⟨oc25, od25, .func (PySem.W.fnOf "_law_odd" "_law_odd" (defArgs sOdd) (defBody sOdd) (defScope sOdd) .none kV25 dc25 pm25 an25 cd25 ct25), sl25⟩) (c25 : PySem.W.codeIn K cd25 "_law_odd" = true) (k25 : PySem.W.keepIn K (.ref f25) = true)
    (a26 : PySem.W.nsIn K mainGlobals "_law_word" = some (some (.ref f26))) (l26 : K.lookup f26 = some ⟨oc26, od26, .func (PySem.W.fnOf "_law_word" "_law_word" (defArgs sWord) (defBody sWord) (defScope sWord) .none kV26 dc26 pm26 an26 cd26 ct26), sl26⟩) (c26 : PySem.W.codeIn K cd26 "_law_word" = true) (k26 : PySem.W.keepIn K (.ref f26) = true)
    (a27 : PySem.W.nsIn K mainGlobals "_law_bent" = some (some (.ref f27))) (l27 : K.lookup f27 = some ⟨oc27, od27, .func (PySem.W.fnOf "_law_bent" "_law_bent" (defArgs sBent) (defBody sBent) (defScope sBent) .none kV27 dc27 pm27 an27 cd27 ct27), sl27⟩) (c27 : PySem.W.codeIn K cd27 "_law_bent" = true) (k27 : PySem.W.keepIn K (.ref f27) = true)
    (a28 : PySem.W.nsIn K mainGlobals "law" = some (some (.ref f28))) (l28 : K.lookup f28 = some ⟨oc28, od28, .func (PySem.W.fnOf "law" "law" (defArgs sLaw) (defBody sLaw) (defScope sLaw) .none kV28 dc28 pm28 an28 cd28 ct28), sl28⟩) (c28 : PySem.W.codeIn K cd28 "law" = true) (k28 : PySem.W.keepIn K (.ref f28) = true)
    (z_len : PySem.W.nsIn K mainGlobals "len" = some none)
    (z_int : PySem.W.nsIn K mainGlobals "int" = some none)
    (z_enumerate : PySem.W.nsIn K mainGlobals "enumerate" = some none)
    (z_bool : PySem.W.nsIn K mainGlobals "bool" = some none)
    (z_list : PySem.W.nsIn K mainGlobals "list" = some none)
    (z_tuple : PySem.W.nsIn K mainGlobals "tuple" = some none)
    (z_isinstance : PySem.W.nsIn K mainGlobals "isinstance" = some none)
    (z_all : PySem.W.nsIn K mainGlobals "all" = some none)
    (z_zip : PySem.W.nsIn K mainGlobals "zip" = some none)
    (z_range : PySem.W.nsIn K mainGlobals "range" = some none)
    (z_max : PySem.W.nsIn K mainGlobals "max" = some none)
    (z_min : PySem.W.nsIn K mainGlobals "min" = some none)
    (z_str : PySem.W.nsIn K mainGlobals "str" = some none)
    (z_repr : PySem.W.nsIn K mainGlobals "repr" = some none)
    {t_NO_LOCK : Tok} (tNO_LOCK : PySem.W.nsIn K mainGlobals "NO_LOCK" = some (some (.int 0 t_NO_LOCK)))
    {t_SHARED : Tok} (tSHARED : PySem.W.nsIn K mainGlobals "SHARED" = some (some (.int 1 t_SHARED)))
    {t_RESERVED : Tok} (tRESERVED : PySem.W.nsIn K mainGlobals "RESERVED" = some (some (.int 2 t_RESERVED)))
    {t_PENDING : Tok} (tPENDING : PySem.W.nsIn K mainGlobals "PENDING" = some (some (.int 3 t_PENDING)))
    {t_EXCLUSIVE : Tok} (tEXCLUSIVE : PySem.W.nsIn K mainGlobals "EXCLUSIVE" = some (some (.int 4 t_EXCLUSIVE)))
    {aTOPENING : Addr} {oTOPENING : Option Addr} {nTOPENING : Nat} {sTOPENING : Array (Option Value)} {qOPENING0 qOPENING1 qOPENING2 : Tok} (tTOPENING : PySem.W.nsIn K mainGlobals "OPENING" = some (some (.ref aTOPENING))) (lTOPENING : K.lookup aTOPENING = some ⟨.type "tuple", oTOPENING, .seq #[.str (Str.ofString "begin") qOPENING0, .str (Str.ofString "immediate") qOPENING1, .str (Str.ofString "exclusive") qOPENING2] nTOPENING, sTOPENING⟩)
    {aTENDING : Addr} {oTENDING : Option Addr} {nTENDING : Nat} {sTENDING : Array (Option Value)} {qENDING0 qENDING1 : Tok} (tTENDING : PySem.W.nsIn K mainGlobals "ENDING" = some (some (.ref aTENDING))) (lTENDING : K.lookup aTENDING = some ⟨.type "tuple", oTENDING, .seq #[.str (Str.ofString "commit") qENDING0, .str (Str.ofString "rollback") qENDING1] nTENDING, sTENDING⟩)
    {aTOTHERS : Addr} {oTOTHERS : Option Addr} {nTOTHERS : Nat} {sTOTHERS : Array (Option Value)} {qOTHERS0 qOTHERS1 qOTHERS2 qOTHERS3 : Tok} (tTOTHERS : PySem.W.nsIn K mainGlobals "OTHERS" = some (some (.ref aTOTHERS))) (lTOTHERS : K.lookup aTOTHERS = some ⟨.type "tuple", oTOTHERS, .seq #[.str (Str.ofString "read") qOTHERS0, .str (Str.ofString "start") qOTHERS1, .str (Str.ofString "stop") qOTHERS2, .str (Str.ofString "write") qOTHERS3] nTOTHERS, sTOTHERS⟩)
    (gc0 : PySem.W.nsIn K mainGlobals "Error" = some (some (.ref C0)))
    (gc1 : PySem.W.nsIn K mainGlobals "DatabaseError" = some (some (.ref C1)))
    (gc2 : PySem.W.nsIn K mainGlobals "ProgrammingError" = some (some (.ref C2)))
    (inI : PySem.W.findIn K (.ref C0) "__init__" = some (some (.ref fI))) (lI : K.lookup fI = some ⟨ocI, odI, .func (PySem.W.fnOf "__init__" "Error.__init__" (defArgs sInit) (defBody sInit) (defScope sInit) (.ref TD) kVI dcI pmI anI cdI ctI), slI⟩) (cI : PySem.W.codeIn K cdI "Error.__init__" = true) (kI : PySem.W.keepIn K (.ref fI) = true) (tI : PySem.W.typeIn K (.ref fI) = some (.type "function")) (lD : K.lookup TD = some ⟨.type "tuple", oD, .seq #[.none] nD, sD⟩)
    (on1 : One K C1 fI)
    (on2 : One K C2 fI)
    (q11 : PySem.W.subIn K (.ref C1) (.ref C1) = some true)
    (q21 : PySem.W.subIn K (.ref C2) (.ref C1) = some true)
    (q22 : PySem.W.subIn K (.ref C2) (.ref C2) = some true) :
    ∃ fd : FuncData, (∀ (s : Shared) (v : Value), BindsTo s fd ⟨[v], []⟩ [("_law_script_here", v)]) ∧ ∀ base : Heap, K.In base → base.Ns mainGlobals mg → LamX.TabB base mg cc pp → FnG l.prog w K mg base 8 fa fd ["_law_script_here"] (spLaw K pp) := by
  have e := hfa.symm.trans (PySem.W.mg_of X G a28)
  cases e
  have T : Tx mg := ⟨PySem.W.mg_none_of X G z_len, PySem.W.mg_none_of X G z_int, PySem.W.mg_none_of X G z_enumerate⟩
  have T2 : Ty mg := ⟨PySem.W.mg_none_of X G z_len, PySem.W.mg_none_of X G z_int, PySem.W.mg_none_of X G z_bool, PySem.W.mg_none_of X G z_list, PySem.W.mg_none_of X G z_tuple, PySem.W.mg_none_of X G z_isinstance, PySem.W.mg_none_of X G z_all, PySem.W.mg_none_of X G z_zip⟩
  have Tk0 : Tk K mg := ⟨⟨_, PySem.W.mg_of X G tNO_LOCK⟩, ⟨_, PySem.W.mg_of X G tSHARED⟩, ⟨_, PySem.W.mg_of X G tRESERVED⟩, ⟨_, PySem.W.mg_of X G tPENDING⟩, ⟨_, PySem.W.mg_of X G tEXCLUSIVE⟩, ⟨aTOPENING, PySem.W.mg_of X G tTOPENING, fun H => .inr ⟨_, _, _, lTOPENING, rfl, rfl, (by show 3 ≤ sizeLine; decide), .cons ⟨_, rfl⟩ (.cons ⟨_, rfl⟩ (.cons ⟨_, rfl⟩ .nil))⟩⟩, ⟨aTENDING, PySem.W.mg_of X G tTENDING, fun H => .inr ⟨_, _, _, lTENDING, rfl, rfl, (by show 2 ≤ sizeLine; decide), .cons ⟨_, rfl⟩ (.cons ⟨_, rfl⟩ .nil)⟩⟩, ⟨aTOTHERS, PySem.W.mg_of X G tTOTHERS, fun H => .inr ⟨_, _, _, lTOTHERS, rfl, rfl, (by show 4 ≤ sizeLine; decide), .cons ⟨_, rfl⟩ (.cons ⟨_, rfl⟩ (.cons ⟨_, rfl⟩ (.cons ⟨_, rfl⟩ .nil)))⟩⟩, PySem.W.mg_none_of X G z_max⟩
  have Tw0 : Tw mg := ⟨PySem.W.mg_none_of X G z_range, PySem.W.mg_none_of X G z_repr⟩
  have FI0 : FI K fI (PySem.W.fnOf "__init__" "Error.__init__" (defArgs sInit) (defBody sInit) (defScope sInit) (.ref TD) kVI dcI pmI anI cdI ctI) :=
    ⟨⟨ocI, odI, _, kVI, dcI, pmI, anI, cdI, ctI, slI, rfl, lI, cI, .inr ⟨by decide, TD, _, [.none], nD, rfl, lD, rfl, .cons rfl .nil⟩, .inl rfl⟩, kI⟩
  have T3 : Cls3 K mg C0 C1 C2 fI := ⟨on2.oe, on2.ec, on2.no, on2.ini, tI, PySem.W.mg_of X G gc0, PySem.W.mg_of X G gc1, PySem.W.mg_of X G gc2, kit_sub on1 q11 q21, PySem.W.exm_ref on2.ec.hs on2.ec.hd on2.oe.tyC q22⟩
  have D0 : Df K mg "is_list" sIsList ["thing"] := df_mk X G a0 l0 c0 k0 fun _ _ _ _ _ _ us hl => match us, hl with | [_], _ => rfl
  have D1 : Df K mg "is_script" sIsScript ["thing"] := df_mk X G a1 l1 c1 k1 fun _ _ _ _ _ _ us hl => match us, hl with | [_], _ => rfl
  have D2 : Df K mg "checked" sChecked ["scripts"] := df_mk X G a2 l2 c2 k2 fun _ _ _ _ _ _ us hl => match us, hl with | [_], _ => rfl
  have D3 : Df K mg "first_state" sFirst ["scripts"] := df_mk X G a3 l3 c3 k3 fun _ _ _ _ _ _ us hl => match us, hl with | [_], _ => rfl
  have D4 : Df K mg "refusal" sRfs ["scripts"] := df_mk X G a4 l4 c4 k4 fun _ _ _ _ _ _ us hl => match us, hl with | [_], _ => rfl
  have D5 : Df K mg "stuck" sStk ["scripts"] := df_mk X G a5 l5 c5 k5 fun _ _ _ _ _ _ us hl => match us, hl with | [_], _ => rfl
  have D6 : Df K mg "calmed" sCmd ["scripts"] := df_mk X G a6 l6 c6 k6 fun _ _ _ _ _ _ us hl => match us, hl with | [_], _ => rfl
  have D7 : Df K mg "is_order" sIsO ["scripts", "order"] := df_mk X G a7 l7 c7 k7 fun _ _ _ _ _ _ us hl => match us, hl with | [_, _], _ => rfl
  have D8 : Df K mg "is_stuck" sIsS ["scripts", "order"] := df_mk X G a8 l8 c8 k8 fun _ _ _ _ _ _ us hl => match us, hl with | [_, _], _ => rfl
  have D9 : Df K mg "next_state" sNxt ["scripts", "state", "at"] := df_mk X G a9 l9 c9 k9 fun _ _ _ _ _ _ us hl => match us, hl with | [_, _, _], _ => rfl
  have D10 : Df K mg "is_never" sNev ["scripts", "states"] := df_mk X G a10 l10 c10 k10 fun _ _ _ _ _ _ us hl => match us, hl with | [_, _], _ => rfl
  have D11 : Df K mg "is_free" sFre ["scripts", "states"] := df_mk X G a11 l11 c11 k11 fun _ _ _ _ _ _ us hl => match us, hl with | [_, _], _ => rfl
  have D12 : Df K mg "_law_fresh" sFresh ["_law_script_here"] := df_mk X G a12 l12 c12 k12 fun _ _ _ _ _ _ us hl => match us, hl with | [_], _ => rfl
  have D13 : Df K mg "_law_fill" sFill ["_law_state"] := df_mk X G a13 l13 c13 k13 fun _ _ _ _ _ _ us hl => match us, hl with | [_], _ => rfl
  have D14 : Df K mg "_law_take" sTake ["_law_state", "_law_many"] := df_mk X G a14 l14 c14 k14 fun _ _ _ _ _ _ us hl => match us, hl with | [_, _], _ => rfl
  have D15 : Df K mg "_law_one" sOne ["_law_state", "_law_things"] := df_mk X G a15 l15 c15 k15 fun _ _ _ _ _ _ us hl => match us, hl with | [_, _], _ => rfl
  have D16 : Df K mg "_law_same" sSame ["_law_found", "_law_due"] := df_mk X G a16 l16 c16 k16 fun _ _ _ _ _ _ us hl => match us, hl with | [_, _], _ => rfl
  have D17 : Df K mg "_law_script" sScript ["_law_state", "_law_many"] := df_mk X G a17 l17 c17 k17 fun _ _ _ _ _ _ us hl => match us, hl with | [_, _], _ => rfl
  have D18 : Df K mg "_law_scripts" sScripts ["_law_state", "_law_most", "_law_many"] := df_mk X G a18 l18 c18 k18 fun _ _ _ _ _ _ us hl => match us, hl with | [_, _, _], _ => rfl
  have D19 : Df K mg "_law_begun" sBegun ["_law_scripts_here"] := df_mk X G a19 l19 c19 k19 fun _ _ _ _ _ _ us hl => match us, hl with | [_], _ => rfl
  have D20 : Df K mg "_law_handed" sHanded ["_law_state", "_law_thing"] := df_mk X G a20 l20 c20 k20 fun _ _ _ _ _ _ us hl => match us, hl with | [_, _], _ => rfl
  have D21 : Df K mg "_law_misused" sMis ["_law_deed"] := df_mk X G a21 l21 c21 k21 fun _ _ _ _ _ _ us hl => match us, hl with | [_], _ => rfl
  have D22 : Df K mg "_law_is_script" sLSc ["_law_thing"] := df_mk X G a22 l22 c22 k22 fun _ _ _ _ _ _ us hl => match us, hl with | [_], _ => rfl
  have D23 : Df K mg "_law_are_scripts" sLAre ["_law_thing"] := df_mk X G a23 l23 c23 k23 fun _ _ _ _ _ _ us hl => match us, hl with | [_], _ => rfl
  have D24 : Df K mg "_law_row_of" sRow ["_law_like", "_law_thing"] := df_mk X G a24 l24 c24 k24 fun _ _ _ _ _ _ us hl => match us, hl with | [_, _], _ => rfl
  have D25 : Df K mg "_law_odd" sOdd ["_law_state"] := df_mk X G a25 l25 c25 k25 fun _ _ _ _ _ _ us hl => match us, hl with | [_], _ => rfl
  have D26 : Df K mg "_law_word" sWord ["_law_state"] := df_mk X G a26 l26 c26 k26 fun _ _ _ _ _ _ us hl => match us, hl with | [_], _ => rfl
  have D27 : Df K mg "_law_bent" sBent ["_law_state", "_law_thing"] := df_mk X G a27 l27 c27 k27 fun _ _ _ _ _ _ us hl => match us, hl with | [_, _], _ => rfl
  have hcd : cd28 = .ref cc := hcc _ _ (X _ _ l28) rfl
  refine ⟨PySem.W.fnOf "law" "law" (defArgs sLaw) (defBody sLaw) (defScope sLaw) .none kV28 dc28 pm28 an28 cd28 ct28, fun s v => .of_eq rfl, fun base _ _ TB => ?_⟩
  have Pil := pr_isLX (P := l.prog) (w := w) (base := base) D0 T2
  have Pis := pr_isScX (P := l.prog) (w := w) (base := base) D1 T2 (PySem.W.mg_none_of X G z_str) Tk0 Pil
  have Pck := pr_ckX D2 T2 FI0 T3 Pil Pis
  have Pfi := pr_fsX D3 T2 Tk0 Pck
  have PA1 := bad_first Pfi
  have PA2 := pr_rfs D4 Pck
  have PA3 := pr_stk D5 Pck
  have PA4 := pr_cmd D6 Pck
  have PB1 := pr_iso D7 Pck
  have PB3 := pr_iss D8 Pck
  have Pne := pr_nxt D9 Pck
  have PB2 := pr_nev D10 PA2
  have PB4 := pr_fre D11 PA3
  have P1 := pr_fresh (P := l.prog) (w := w) (base := base) D12
  have P2 := pr_fill (P := l.prog) (w := w) (base := base) D13 T
  have P3 := pr_take D14 T P2
  have P4 := pr_one D15 T P3
  have P5 := pr_same (P := l.prog) (w := w) (base := base) D16 T2 3
  have Psc := pr_script D17 T T2 (PySem.W.mg_none_of X G z_range) (PySem.W.mg_none_of X G z_min) P3 P4
  have Pss := pr_scripts D18 T2 (PySem.W.mg_none_of X G z_range) P3 Psc
  have Pbg := pr_bgX (P := l.prog) (w := w) (base := base) D19 T2
  have Pha := pr_handed D20 T2 P3 3
  have Pls := pr_lsc (P := l.prog) (w := w) (base := base) D22 T2 (PySem.W.mg_none_of X G z_str)
  have Pla := pr_lare D23 T2 Pls
  have Prw := pr_row (P := l.prog) (w := w) (base := base) D24 T2
  have Pod := pr_oddX D25 T P3
  have Pwd := pr_wordX D26 P3 Pod
  have Pbe := pr_bent D27 T2 P3 Pod Pwd Prw
  exact ok_law (fun_mk l28 c28 k28) hcd TB T2 Tw0 T3 D21 P1 P3 Pss Pha Pbg P5 Pbe Pod Pla Pfi Pne PA1 PA2 PA3 PA4 PB1 PB2 PB3 PB4
theorem walk {l : PySem.W.OpenLaw} {q : Program} {loose : List Str} {XP : (Str → Option Value) → Heap → Prop} {YP : World → Heap → Prop} {d : DefRec} {K : Params → PySem.W.Frag} (hn : l.most = some 63) (hdf : d.params.defaults = [])
    (hY : ∀ (w : World) (h : Heap), YP w h → (K w.params).In h) (hd : d ∈ PyProof.Rows.recsOf q) (hK : ∀ w : World, PySem.W.noTabs (K w.params) = true)
    (F : ∀ (w : World) (mg : Str → Option Value) (fa c p : Addr) (h : Heap), (K w.params).In h → h.Ns mainGlobals mg → mg d.name = some (.ref fa) → (∀ o fd, h.get? fa = some o → o.data = .func fd → fd.code = .ref c) →
      ∃ fd : FuncData, (∀ (s : Shared) (u : Value), BindsTo s fd ⟨[u], []⟩ [("_law_script_here", u)]) ∧ ∀ base : Heap, (K w.params).In base → base.Ns mainGlobals mg → LamX.TabB base mg c p → FnG l.prog w (K w.params) mg base 8 fa fd ["_law_script_here"] (spLaw (K w.params) p)) :
    PySem.W.WalkO q loose XP YP l.row.toRowW d [] (fun f vs => PySem.call f vs) :=
  walk_ofH (n := 63) (k := 8) (x := "_law_script_here") (sp := fun w p => spLaw (K w.params) p) hn (by decide) hdf ⟨rfl, by decide, by decide⟩ hY hd hK F (fun _ _ a p ns hl hp hS => ⟨a, ns, rfl, hS, hl, hp, fun _ => rfl⟩)
end C79
open PySem PySem.W PyProof.Rows
set_option maxRecDepth 100000 in
set_option maxHeartbeats 0 in
theorem PySem.Challenge.cw_cursorhouse_k79_scripts_refused_holds : PySem.Challenge.rw_cursorhouse_k79_scripts_refused.Holds := by
  w_on; o_law; k_head; (case hw => w_witness2)
  k_fill
  refine C79.walk (l := PySem.Challenge.rw_cursorhouse_k79_scripts_refused) rfl rfl (fun w h Y => PySem.W.km_in_of Y) ?hd ?hK ?F
  case hd => exact List.mem_of_find?_eq_some (p := fun e : DefRec => e.name == "law") (by rfl)
  case hK => exact fun w => rfl
  case F =>
    intro w mg fa cc pp h KX G hmg hcc
    refine' C79.all_mk KX G hmg hcc ?a0 ?l0 ?c0 ?k0 ?a1 ?l1 ?c1 ?k1 ?a2 ?l2 ?c2 ?k2 ?a3 ?l3 ?c3 ?k3 ?a4 ?l4 ?c4 ?k4 ?a5 ?l5 ?c5 ?k5 ?a6 ?l6 ?c6 ?k6 ?a7 ?l7 ?c7 ?k7 ?a8 ?l8 ?c8 ?k8 ?a9 ?l9 ?c9 ?k9 ?a10 ?l10 ?c10 ?k10 ?a11 ?l11 ?c11 ?k11 ?a12 ?l12 ?c12 ?k12 ?a13 ?l13 ?c13 ?k13 ?a14 ?l14 ?c14 ?k14 ?a15 ?l15 ?c15 ?k15 ?a16 ?l16 ?c16 ?k16 ?a17 ?l17 ?c17 ?k17 ?a18 ?l18 ?c18 ?k18 ?a19 ?l19 ?c19 ?k19 ?a20 ?l20 ?c20 ?k20 ?a21 ?l21 ?c21 ?k21 ?a22 ?l22 ?c22 ?k22 ?a23 ?l23 ?c23 ?k23 ?a24 ?l24 ?c24 ?k24 ?a25 ?l25 ?c25 ?k25 ?a26 ?l26 ?c26 ?k26 ?a27 ?l27 ?c27 ?k27 ?a28 ?l28 ?c28 ?k28 ?z_len ?z_int ?z_enumerate ?z_bool ?z_list ?z_tuple ?z_isinstance ?z_all ?z_zip ?z_range ?z_max ?z_min ?z_str ?z_repr ?tNO_LOCK ?tSHARED ?tRESERVED ?tPENDING ?tEXCLUSIVE ?tTOPENING ?lTOPENING ?tTENDING ?lTENDING ?tTOTHERS ?lTOTHERS ?gc0 ?gc1 ?gc2 ?inI ?lI ?cI ?kI ?tI ?lD ?on1 ?on2 ?q11 ?q21 ?q22
    (case a0 => k_is)
    (case l0 => k_is)
    (case c0 => k_is)
    (case k0 => k_is)
    (case a1 => k_is)
    (case l1 => k_is)
    (case c1 => k_is)
    (case k1 => k_is)
    (case a2 => k_is)
    (case l2 => k_is)
    (case c2 => k_is)
    (case k2 => k_is)
    (case a3 => k_is)
    (case l3 => k_is)
    (case c3 => k_is)
    (case k3 => k_is)
    (case a4 => k_is)
    (case l4 => k_is)
    (case c4 => k_is)
    (case k4 => k_is)
    (case a5 => k_is)
    (case l5 => k_is)
    (case c5 => k_is)
    (case k5 => k_is)
    (case a6 => k_is)
    (case l6 => k_is)
    (case c6 => k_is)
    (case k6 => k_is)
    (case a7 => k_is)
    (case l7 => k_is)
    (case c7 => k_is)
    (case k7 => k_is)
    (case a8 => k_is)
    (case l8 => k_is)
    (case c8 => k_is)
    (case k8 => k_is)
    (case a9 => k_is)
    (case l9 => k_is)
    (case c9 => k_is)
    (case k9 => k_is)
    (case a10 => k_is)
    (case l10 => k_is)
    (case c10 => k_is)
    (case k10 => k_is)
    (case a11 => k_is)
    (case l11 => k_is)
    (case c11 => k_is)
    (case k11 => k_is)
    (case a12 => k_is)
    (case l12 => k_is)
    (case c12 => k_is)
    (case k12 => k_is)
    (case a13 => k_is)
    (case l13 => k_is)
    (case c13 => k_is)
    (case k13 => k_is)
    (case a14 => k_is)
    (case l14 => k_is)
    (case c14 => k_is)
    (case k14 => k_is)
    (case a15 => k_is)
    (case l15 => k_is)
    (case c15 => k_is)
    (case k15 => k_is)
    (case a16 => k_is)
    (case l16 => k_is)
    (case c16 => k_is)
    (case k16 => k_is)
    (case a17 => k_is)
    (case l17 => k_is)
    (case c17 => k_is)
    (case k17 => k_is)
    (case a18 => k_is)
    (case l18 => k_is)
    (case c18 => k_is)
    (case k18 => k_is)
    (case a19 => k_is)
    (case l19 => k_is)
    (case c19 => k_is)
    (case k19 => k_is)
    (case a20 => k_is)
    (case l20 => k_is)
    (case c20 => k_is)
    (case k20 => k_is)
    (case a21 => k_is)
    (case l21 => k_is)
    (case c21 => k_is)
    (case k21 => k_is)
    (case a22 => k_is)
    (case l22 => k_is)
    (case c22 => k_is)
    (case k22 => k_is)
    (case a23 => k_is)
    (case l23 => k_is)
    (case c23 => k_is)
    (case k23 => k_is)
    (case a24 => k_is)
    (case l24 => k_is)
    (case c24 => k_is)
    (case k24 => k_is)
    (case a25 => k_is)
    (case l25 => k_is)
    (case c25 => k_is)
    (case k25 => k_is)
    (case a26 => k_is)
    (case l26 => k_is)
    (case c26 => k_is)
    (case k26 => k_is)
    (case a27 => k_is)
    (case l27 => k_is)
    (case c27 => k_is)
    (case k27 => k_is)
    (case a28 => k_is)
    (case l28 => k_is)
    (case c28 => k_is)
    (case k28 => k_is)
    (case z_len => k_is)
    (case z_int => k_is)
    (case z_enumerate => k_is)
    (case z_bool => k_is)
    (case z_list => k_is)
    (case z_tuple => k_is)
    (case z_isinstance => k_is)
    (case z_all => k_is)
    (case z_zip => k_is)
    (case z_range => k_is)
    (case z_max => k_is)
    (case z_min => k_is)
    (case z_str => k_is)
    (case z_repr => k_is)
    (case tNO_LOCK => k_is)
    (case tSHARED => k_is)
    (case tRESERVED => k_is)
    (case tPENDING => k_is)
    (case tEXCLUSIVE => k_is)
    (case tTOPENING => k_is)
    (case lTOPENING => k_is)
    (case tTENDING => k_is)
    (case lTENDING => k_is)
    (case tTOTHERS => k_is)
    (case lTOTHERS => k_is)
    (case gc0 => k_is)
    (case gc1 => k_is)
    (case gc2 => k_is)
    (case inI => k_is)
    (case lI => k_is)
    (case cI => k_is)
    (case kI => k_is)
    (case tI => k_is)
    (case lD => k_is)
    (case on1 => refine' C79.one_mk ?l ?r ?sa ?ex ?ty ?kc ?hg ?hk ?hd ?ha ?hm ?hn ?ht ?no ?ini; (case l => k_is); (case r => decide +kernel); (case sa => k_is); (case ex => k_is); (case ty => k_is); (case kc => k_is); (case hg => k_is); (case hk => k_is); (case hd => k_is); (case ha => k_is); (case hm => k_is); (case hn => k_is); (case ht => k_is); (case no => k_is); (case ini => k_is))
    (case on2 => refine' C79.one_mk ?l ?r ?sa ?ex ?ty ?kc ?hg ?hk ?hd ?ha ?hm ?hn ?ht ?no ?ini; (case l => k_is); (case r => decide +kernel); (case sa => k_is); (case ex => k_is); (case ty => k_is); (case kc => k_is); (case hg => k_is); (case hk => k_is); (case hd => k_is); (case ha => k_is); (case hm => k_is); (case hn => k_is); (case ht => k_is); (case no => k_is); (case ini => k_is))
    (case q11 => k_is)
    (case q21 => k_is)
    (case q22 => k_is)
#print axioms PySem.Challenge.cw_cursorhouse_k79_scripts_refused_holds
