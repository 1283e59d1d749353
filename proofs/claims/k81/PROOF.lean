import PyProof.Rows.All
import Wide.All
import OpenK.AllK
import Wide.FinOn
import HandS.ForMost
import HandS.Walk
import HandS.Evl
import HandS.IsInst
import HandS.StrMore
import HandS.Flow
import HandS.Style
import HandS.Replace
import KE.GoesMore
import HandS.Zip
import HandS.SortKw
import KE.DataMinMax
import HandS.TupAny
import HandS.Dict
import KE.KeyNested
import KE.KDictDisplayH
import HandS.Iter
import HandS.More
import KE.SortCalls
import PyProof.ReprRoads
import HandS.TryOnly
import HandS.DictComp
import HandS.TupSets
import PyProof.NeKinds
import HandS.CallLocal
import PySem.Challenge.RW_cursorhouse_k81_orders_and_states_looked
set_option Elab.async false
set_option maxRecDepth 100000
set_option maxHeartbeats 4000000
/-! Own rules beside the layer: enumerate over a tuple. -/
namespace My
open PySem L2 PyProof.Rows
theorem meets_enumT (l : Addr) (items : Array Value) (n : Nat) (dct : Option Addr) (sl : Array (Option Value)) :
    Meets (Builtin.«enumerate.__new__» ⟨[.type "enumerate", .ref l], []⟩) (fun _ R s => s.heap.get? l = some { cls := .type "tuple", dict := dct, data := .seq items n, slots := sl } ∧
      R (.ok (.ret (.ref (s.heap.push { cls := .type "tuple_iterator", data := .fields #[.ref l, .int 0 0] }).objs.size)))
        { s with heap := (s.heap.push { cls := .type "tuple_iterator", data := .fields #[.ref l, .int 0 0] }).push { cls := .type "enumerate", data := .fields #[.none, .bool false, .ref s.heap.objs.size, rawInt 0, .none, .none] } }) :=
  .of_wp fun prog w A R s h => by
    obtain ⟨hp, g, d, tk, os⟩ := s
    obtain ⟨hl, h⟩ := h
    have hsub := sub_enumerate
    have hL : Heap.IsTuple (Shared.heap ⟨hp, g, d, tk, os⟩) l items := ⟨_, hl, rfl, n, rfl⟩
    wp_walk using AutoSeq1.wpAny_loadPart' hl
    refine wpAny_stack_any fun st => wpAny_pure ?_
    split
    · rename_i c _ _ _ _ _
      cases (c == Value.type "enumerate")
      · wp_walk using AutoSeq1.wpAny_loadPart' hl, wpAny_pyIter_tuple hL
        exact ⟨_, rfl, h⟩
      · wp_walk using AutoSeq1.wpAny_loadPart' hl, wpAny_pyIter_tuple hL
        exact ⟨_, rfl, h⟩
    · wp_walk using AutoSeq1.wpAny_loadPart' hl, wpAny_pyIter_tuple hL
      exact ⟨_, rfl, h⟩
section
variable {prog : Program} {w : World} {A : Around} {E : Value → Shared → Prop} {s : Shared}
theorem call_enumT {l : Addr} {items : Array Value} {Q : Value → Shared → Prop} (hL : s.heap.IsTuple l items)
    (h : ∀ h', IsEnum h' (s.heap.objs.size + 1) s.heap.objs.size 0 .none → h'.IsTupleIter s.heap.objs.size l 0 → h'.objs.size = s.heap.objs.size + 2 →
      (∀ b o, s.heap.get? b = some o → h'.get? b = some o) → Q (.ref (s.heap.objs.size + 1)) { s with heap := h' }) :
    wpAny (model prog w) A (call (.type "enumerate") [.ref l]) Q E s := by
  obtain ⟨⟨c, dct, dt, sl⟩, hl, hc, n, hd⟩ := hL
  replace hc : c = .type "tuple" := hc
  replace hd : dt = .seq items n := hd
  subst hc hd
  refine callType_new F.called_enumerate (by decide) (F.typeCall_enumerate_1 _) (F.newCall_enumerate_1 _) (fun obj => F.args_object_init_2 obj _) F.entry_enumerate_new
    (meets_enumT l items n dct sl) ⟨hl, ?_⟩
  have hz : (s.heap.push { cls := .type "tuple_iterator", data := .fields #[.ref l, .int 0 0] }).objs.size = s.heap.objs.size + 1 := Heap.size_push ..
  show _ ∧ _
  rw [hz]
  have he : IsEnum ((s.heap.push { cls := .type "tuple_iterator", data := .fields #[.ref l, .int 0 0] }).push
      { cls := .type "enumerate", data := .fields #[.none, .bool false, .ref s.heap.objs.size, rawInt 0, .none, .none] }) (s.heap.objs.size + 1) s.heap.objs.size 0 .none := by
    have := Heap.get?_push_size (s.heap.push { cls := .type "tuple_iterator", data := .fields #[.ref l, .int 0 0] })
      (o := { cls := .type "enumerate", data := .fields #[.none, .bool false, .ref s.heap.objs.size, rawInt 0, .none, .none] }) rfl
    rw [hz] at this
    exact this
  exact ⟨⟨_, he, rfl⟩, h _ he ⟨_, Heap.get?_push_of_some _ (Heap.get?_push_size _ rfl), rfl, rfl⟩ (by rw [Heap.size_push, hz]) fun b o x => Heap.get?_push_of_some _ (Heap.get?_push_of_some _ x)⟩
theorem enumT_end {e it l : Addr} {i : Nat} {items : Array Value} {old : Value} {Q : Option Value → Shared → Prop} (hh : A.handled = none)
    (he : IsEnum s.heap e it i old) (hit : s.heap.IsTupleIter it l i) (hl : s.heap.IsTuple l items) (hx : items[i]? = none)
    (hQ : ∀ h', Heap.ExtBut it s.heap h' → Q none { s with heap := h' }) : wpAny (model prog w) A (pyNext (.ref e)) Q E s := by
  have tE : s.TypeIs (.ref e) "enumerate" := ⟨_, he, rfl⟩
  unfold pyNext
  refine wpAny_bind (wpAny_attempt (wpAny_callSpecial?_slot (name := Str.ofString "__next__") tE F.slot_enumerate_next
    (wpAny_call_entry F.slot_enumerate_next tE F.entry_enumerate_next ?_ (F.args_enumerate_next_1 _))))
  show wpAny _ _ (field (.ref e) 2 >>= _) _ _ _
  refine wpAny_bind (wpAny_field he rfl (x := .ref it) rfl ?_)
  refine wpAny_bind (wpAny_nextOf_tuple_end hh hit hl hx fun h' x he' hx' => ?_)
  obtain ⟨o, ho, hc⟩ := hx'
  refine wpAny_bind (wpAny_isInstance (T := "StopIteration") (b := true) ⟨o, ho, hc⟩ isSubtype_stop ?_)
  exact wpAny_pure (hQ _ he')
end
/-- the tuple at a as it stands at each turn, each item in a new pair -/
def Iet (K : PySem.W.Frag) (a : Addr) : It :=
  ⟨fun i H => ∃ (xs : List V) (x : V), SqT K H a xs ∧ xs[i]? = some x, fun i H v H' => ∃ T x, v = .ref T ∧ H T = none ∧ H' = upd H T (.tup [.int (i : Nat), x]) ∧ ∀ xs, SqT K H a xs → xs[i]? = some x, fun i H => ∃ xs : List V, SqT K H a xs ∧ xs.length ≤ i⟩
theorem turn_enumT {P : Program} {w : World} {K : PySem.W.Frag} {elts : List Expr} {kk : Nat} {tpos : Pos} (a e it : Addr) :
    Turn P w K (.Tuple elts kk tpos) (Iet K a) [e, it] e (fun i h => (∃ old, IsEnum h e it ((i : Nat) : Int) old) ∧ h.IsTupleIter it a i ∧ e ≠ it) where
  mem := by simp
  obj := fun i h st b hb => by
    obtain ⟨⟨old, he⟩, ⟨o, ho, hc, hd⟩, _⟩ := st
    have e' : b = e ∨ b = it := by simpa using hb
    rcases e' with z | z
    · rw [z]
      exact ⟨_, he, fun v q => nomatch q⟩
    · rw [z]
      exact ⟨o, ho, fun v q => by rw [hd] at q; cases q⟩
  keep := fun i h h' st k => let ⟨⟨old, he⟩, hi, hne⟩ := st; ⟨⟨old, k e (by simp) _ he⟩, hi.at fun o q => k it (by simp) o q, hne⟩
  item := by
    intro X hP hw hK hc i pins s σ H E I hf st hg
    subst hP hw hK
    obtain ⟨⟨old, he⟩, hit, hne⟩ := st
    obtain ⟨xs, x, hq, hx⟩ := hg
    obtain ⟨its, rv, p, hz⟩ := I.tuple hq
    obtain ⟨u, hu, ru⟩ := rv.get hx
    have hel : e < s.heap.objs.size := Heap.lt_size he
    have hil : it < s.heap.objs.size := by
      obtain ⟨_, q, _⟩ := hit
      exact Heap.lt_size q
    have hlt : i < its.toArray.size := by
      have := (List.getElem?_eq_some_iff.mp hu).1
      simpa using this
    have hai : a ≠ it := by
      intro q
      obtain ⟨o, ho, hc', _⟩ := p
      obtain ⟨o2, ho2, hc2, _⟩ := hit
      rw [q, ho2] at ho
      cases ho
      rw [hc2] at hc'
      injection hc' with e1
      exact absurd e1 (by decide)
    have hae : a ≠ e := by
      intro q
      obtain ⟨o, ho, hc', _⟩ := p
      rw [q, he] at ho
      cases ho
      injection (show Value.type "enumerate" = Value.type "tuple" from hc') with e1
      exact absurd e1 (by decide)
    refine wpAny_pyNext_enum_itemD (Draws.tuple (A := X.A.in1) (show X.A.in1.handled = none from I.ok.hd hc) it a hai its.toArray) he ⟨hit, p⟩ hlt hne (by simp [hne, Ne.symm hae]) fun y h' tk hy ho hit' hT hsz hk => ?_
    have hyu : y = u := by
      have h1 : its.toArray[i]? = some u := by simpa using hu
      rw [h1] at hy
      exact (Option.some.inj hy).symm
    subst hyu
    refine ⟨_, rfl, wpAny_letOwnedTupleGo_enum (s := { s with heap := h', toks := tk + 1 }) ho fun h'' he' sb => ?_⟩
    have hT2 : h''.get? s.heap.objs.size = some { cls := .type "tuple", data := .seq #[.int i tk, y] } := (sb.2 _ (Nat.ne_of_gt hel)).trans hT
    have new : ObjOk X.prog X.w (upd H s.heap.objs.size (.tup [.int (i : Nat), x])) h'' s.heap.objs.size (.tup [.int (i : Nat), x]) :=
      ⟨by show 2 ≤ sizeLine; decide, [.int i tk, y], .cons ⟨_, rfl⟩ (.cons ru .nil), ⟨_, hT2, rfl, _, rfl⟩⟩
    have I1 : Inv X pins σ (upd H s.heap.objs.size (.tup [.int (i : Nat), x])) { s with heap := h'', toks := tk + 1 } :=
      I.turnedNew (ch := [e, it]) (fun b ob hb q => (sb.2 b (fun z => hb (by simp [z]))).trans (hk b ob (fun z => hb (by simp [z])) (fun z => hb (by simp [z])) q)) hf (Nat.le_refl _) new
    refine ⟨.ref s.heap.objs.size, _, I1, rfl, ⟨_, x, rfl, I.hok.fresh (Nat.le_refl _), rfl, fun ys hy => by rw [I.tuple_inj hy hq]; exact hx⟩, ⟨⟨y, ?_⟩, hit'.1.at fun o q => (sb.2 it (Ne.symm hne)).trans q, hne⟩, fun b hb => ?_⟩
    · have e1 : ((i + 1 : Nat) : Int) = (i : Int) + 1 := by omega
      rw [e1]
      exact he'
    · have hb' : b < s.heap.objs.size := by
        have e' : b = e ∨ b = it := by simpa using hb
        rcases e' with z | z
        · rw [z]
          exact hel
        · rw [z]
          exact hil
      rw [upd_ne (Nat.ne_of_lt hb')]
      exact (hf b hb).1
  done := by
    intro X hP hw hK hc i pins s σ H E I hf st hg
    subst hP hw hK
    obtain ⟨⟨old, he⟩, hit, hne⟩ := st
    obtain ⟨xs, hq, hx⟩ := hg
    obtain ⟨its, rv, p, hz⟩ := I.tuple hq
    obtain ⟨f0, f1, f2, f3, f4, f5⟩ := hf it (by simp)
    have hl := rv.length
    exact enumT_end (I.ok.hd hc) he hit p (by simp; omega) fun h' eb => ⟨rfl, I.turned (t' := s.toks) (fun b o hb q => eb b o hb q) f0 f1 f3 f4 f5⟩
  self := fun A i s Q E st h => let ⟨⟨_, he⟩, _⟩ := st; wpAny_pyIter_enum he h
def iEnumT (K : PySem.W.Frag) (ta : TA) : TI := fun σ H R => ta σ H fun vs H1 => ∃ a xs, vs = [.ref a] ∧ SqT K H1 a xs ∧ R (Iet K a) H1
theorem pi_enumT {X : Cx} {e : Expr} {ta : TA} {p pos tpos : Pos} {elts : List Expr} {kk : Nat} (hg : Gl X "enumerate") (hm : X.mg "enumerate" = none) (ha : PA X [e] ta) (hs : starEach [e] X.env = [(false, eval e X.env)] := by rfl) :
    PI X (.Tuple elts kk tpos) (.Call (.Name "enumerate" p) [e] [] pos) (iEnumT X.K ta) := by
  refine ⟨fun pins s σ H R I h => ?_⟩
  refine Call_ (ld_blt I hg hm boot_enumerate (PyProof.Rows.callWith_type1 (thn (ha.run pos pins s σ H _ I h) fun us s1 ⟨vs, H1, I1, r1, q1⟩ => ?_) hs rfl))
  obtain ⟨a, xs, ex, hq, q⟩ := q1
  subst ex
  cases r1 with
  | cons r rr =>
    cases rr
    cases r
    obtain ⟨its, rv, p', hz⟩ := I1.tuple hq
    refine call_enumT (show s1.heap.IsTuple a its.toArray from p') fun h' he hit hsz hk => wpAny_pyIter_enum he ?_
    have I2 : Inv X pins σ H1 { s1 with heap := h' } := I1.kept (t' := s1.toks) hk
    refine ⟨s1.heap.objs.size + 1, [s1.heap.objs.size + 1, s1.heap.objs.size], _, _, H1, rfl, I2, turn_enumT a (s1.heap.objs.size + 1) s1.heap.objs.size, ⟨⟨.none, he⟩, hit, Nat.succ_ne_self _⟩, fun b hb => ?_, q⟩
    have e' : b = s1.heap.objs.size + 1 ∨ b = s1.heap.objs.size := by simpa using hb
    have hle : s1.heap.objs.size ≤ b := by
      rcases e' with z | z
      · rw [z]
        exact Nat.le_add_right _ _
      · rw [z]
        exact Nat.le_refl _
    exact I1.fpOk hle (I1.hok.fresh hle)
theorem walk_enumT {K : PySem.W.Frag} {a : Addr} {xs : List V} : Walk (Iet K a) xs.length (fun H => SqT K H a xs) (YPair (fun i => some (.int (i : Nat))) (fun i => xs[i]?)) :=
  ⟨fun i H hi h => ⟨xs, xs[i], h, by simp [hi]⟩, fun H h => ⟨xs, h, Nat.le_refl _⟩, fun i H v H' hi h y => by
    obtain ⟨T, x, e, f, g, q⟩ := y
    exact ⟨T, .int (i : Nat), x, e, f, g, rfl, q xs h⟩⟩
end My

set_option Elab.async false
set_option maxRecDepth 100000
set_option maxHeartbeats 4000000
set_option linter.all false
/-! A def of the text and what it promises, by its name alone. -/
namespace My
open PySem PySem.Spec PyProof.Rows L2
/-- the def x of the text stands at its name, with parameters ps and no defaults -/
def Df (K : PySem.W.Frag) (mg : Str → Option Value) (x : Str) (st : Stmt) (ps : List Str) : Prop :=
  ∃ f fd, Fun K x x st f fd ∧ Binds K fd ps [] ∧ mg x = some (.ref f)
/-- the def that stands at the name x keeps the promise sp at level k -/
def Pr (P : Program) (w : World) (K : PySem.W.Frag) (mg : Str → Option Value) (base : Heap) (k : Nat) (x : Str) (ps : List Str) (sp : Sp) : Prop :=
  ∃ f fd, FnOk P w K mg base CX0 k f fd ps sp ∧ mg x = some (.ref f) ∧ PySem.W.keepIn K (.ref f) = true ∧ Binds K fd ps []
theorem pe_callP {X : Cx} {k : Nat} {x : Str} {ps : List Str} {sp : Sp} {e : Expr} {es : List Expr} {t : TA} {p pos : Pos}
    (h : Pr X.prog X.w X.K X.mg X.base k x ps sp) (hr : Room k X.A) (hg : Gl X x) (ha : PA X (e :: es) t)
    (hdb : (x == ("__debug__" : Str)) = false := by decide) (he : starEach (e :: es) X.env = (false, eval e X.env) :: starEach es X.env := by rfl) (hpl : (backTo pos (starEach es X.env)).any (·.1) = false := by rfl) :
    PE X (.Call (.Name x p) (e :: es) [] pos) (tCall sp [] E0 t) := by
  obtain ⟨f, fd, F, hm, hk, hb⟩ := h
  exact pe_call F hr hg hm hk hb .nil pass0 ha hdb he hpl
theorem Df.pr {P : Program} {w : World} {K : PySem.W.Frag} {mg : Str → Option Value} {base : Heap} {x : Str} {st : Stmt} {N ps : List Str} {k : Nat} {sp : Sp}
    (D : Df K mg x st ps) (S : FnScope N ps (defScope st)) (len : ∀ vs H Q E, sp vs H Q E → vs.length = ps.length)
    (hbody : ∀ (f : Addr) (cdv : Value) (A : Around) (outer : List Env) (s : Shared) (H : Hp) (vs : List V) (Q : VK) (E : XK), Room k (A.deeper (envOfC x (defScope st) s.heap.objs.size f cdv)) → sp vs H Q E →
      ∃ t, PSs (cxOf CX0 P w K mg base N x (defScope st) f cdv A outer s H E).nox (defBody st) t ∧ t { nx := fun _ H' => Q .non H', rt := Q } (start N vs) H) :
    Pr P w K mg base (k + 1) x ps sp := by
  obtain ⟨f, fd, F, b, g⟩ := D
  exact ⟨f, fd, F.ok S len (hbody f), g, F.kp, b⟩
/-- all but the object at p stays -/
def But (p : Addr) (H H' : Hp) : Prop := ∀ b o, H b = some o → b ≠ p → H' b = some o
theorem But.refl (p : Addr) (H : Hp) : But p H H := fun _ _ e _ => e
theorem But.trans {p : Addr} {H H1 H2 : Hp} (a : But p H H1) (b : But p H1 H2) : But p H H2 := fun x o e n => b x o (a x o e n) n
theorem But.upd {p : Addr} {H H1 : Hp} {o : HO} (a : But p H H1) : But p H (upd H1 p o) := fun x u e n => by
  rw [upd_ne n]
  exact a x u e n
theorem But.new {p q : Addr} {H H1 : Hp} {o : HO} (a : But p H H1) (h : H1 q = none) : But p H (L2.upd H1 q o) := fun x u e n => by
  rw [upd_ne (ne_of_none (a x u e n) h)]
  exact a x u e n
/-- the law's own drawing state at st: cells at c (the script's numbers), the rest open -/
def Drw (H : Hp) (st c : Addr) (ns : List Int) : Prop :=
  H c = some (.lst (ns.map V.int)) ∧ ∃ (n v : Int) (b : Bool), 0 ≤ n ∧ H st = some (.lst [.ref c, .int n, .int v, .bl b])
theorem Drw.ne {H : Hp} {st c : Addr} {ns : List Int} (h : Drw H st c ns) : c ≠ st := by
  obtain ⟨hc, n, v, b, _, hs⟩ := h
  refine ne_of hc hs fun e => ?_
  injection e with e
  cases ns with
  | nil => cases e
  | cons a r =>
    injection e with e1 _
    cases e1
theorem Drw.put {H : Hp} {st c : Addr} {ns : List Int} (h : Drw H st c ns) {n v : Int} {b : Bool} (h0 : 0 ≤ n) : Drw (L2.upd H st (.lst [.ref c, .int n, .int v, .bl b])) st c ns :=
  ⟨by rw [upd_ne h.ne]; exact h.1, n, v, b, h0, upd_same⟩
theorem Drw.new {H : Hp} {st c q : Addr} {ns : List Int} {o : HO} (h : Drw H st c ns) (hq : H q = none) : Drw (L2.upd H q o) st c ns := by
  obtain ⟨hc, n, v, b, h0, hs⟩ := h
  exact ⟨by rw [upd_ne (ne_of_none hc hq)]; exact hc, n, v, b, h0, by rw [upd_ne (ne_of_none hs hq)]; exact hs⟩
theorem Drw.but {H H' : Hp} {st c : Addr} {ns : List Int} (h : Drw H st c ns) {n v : Int} {b : Bool} (h0 : 0 ≤ n) (hb : But st H H') (hs : H' st = some (.lst [.ref c, .int n, .int v, .bl b])) : Drw H' st c ns :=
  ⟨hb _ _ h.1 h.ne, n, v, b, h0, hs⟩
/-- a test whose both answers leave the heap as it is -/
theorem tt_any {c : TT} {σ : L2.St} {H : Hp} {K : Bool → Hp → Prop} (h : ∀ K' : Bool → Hp → Prop, K' true H → K' false H → c σ H K') (hT : K true H) (hF : K false H) : c σ H K := h K hT hF
theorem ite3 {c : Prop} [Decidable c] {K : Bool → Hp → Prop} {H : Hp} (a : c → K true H) (b : ¬ c → K false H) : K (decide c) H := by
  by_cases h : c
  · rw [decide_eq_true h]
    exact a h
  · rw [decide_eq_false h]
    exact b h
end My

set_option Elab.async false
set_option maxRecDepth 100000
set_option maxHeartbeats 4000000
set_option linter.all false
/-! Data that stands in the heap, apart from one object m that may change. -/
namespace My
open PySem PySem.Spec PyProof.Rows L2
mutual
inductive At (m : Addr) (H : Hp) : V → PyData → Prop
  | non : At m H .non .none
  | bl (b : Bool) : At m H (.bl b) (.bool b)
  | int (i : Int) : At m H (.int i) (.int i)
  | str (x : Str) : At m H (.str x) (.str x)
  | lst {a : Addr} {xs : List V} {ds : List PyData} : a ≠ m → H a = some (.lst xs) → AtAll m H xs ds → At m H (.ref a) (.list ds)
  | tup {a : Addr} {xs : List V} {ds : List PyData} : a ≠ m → H a = some (.tup xs) → AtAll m H xs ds → At m H (.ref a) (.tuple ds)
inductive AtAll (m : Addr) (H : Hp) : List V → List PyData → Prop
  | nil : AtAll m H [] []
  | cons {v : V} {vs : List V} {d : PyData} {ds : List PyData} : At m H v d → AtAll m H vs ds → AtAll m H (v :: vs) (d :: ds)
end
mutual
theorem At.mono {m : Addr} {H H' : Hp} (b : But m H H') : ∀ {v : V} {d : PyData}, At m H v d → At m H' v d
  | _, _, .non => .non
  | _, _, .bl k => .bl k
  | _, _, .int i => .int i
  | _, _, .str x => .str x
  | _, _, .lst n h q => .lst n (b _ _ h n) (AtAll.mono b q)
  | _, _, .tup n h q => .tup n (b _ _ h n) (AtAll.mono b q)
theorem AtAll.mono {m : Addr} {H H' : Hp} (b : But m H H') : ∀ {vs : List V} {ds : List PyData}, AtAll m H vs ds → AtAll m H' vs ds
  | _, _, .nil => .nil
  | _, _, .cons h q => .cons (At.mono b h) (AtAll.mono b q)
end
mutual
theorem At.dp {K : PySem.W.Frag} {m : Addr} {H : Hp} : ∀ {v : V} {d : PyData}, At m H v d → Dp K H v d
  | _, _, .non => .non
  | _, _, .bl k => .bl k
  | _, _, .int i => .int i
  | _, _, .str x => .str x
  | _, _, .lst n h q => .lst (SqL.of h) (AtAll.dp q)
  | _, _, .tup n h q => .tup (SqT.of h) (AtAll.dp q)
theorem AtAll.dp {K : PySem.W.Frag} {m : Addr} {H : Hp} : ∀ {vs : List V} {ds : List PyData}, AtAll m H vs ds → DpAll K H vs ds
  | _, _, .nil => .nil
  | _, _, .cons h q => .cons (At.dp h) (AtAll.dp q)
end
theorem Same.but {m : Addr} {H H' : Hp} (s : Same H H') : But m H H' := fun b o e _ => s b o e
theorem AtAll.length {m : Addr} {H : Hp} : ∀ {vs : List V} {ds : List PyData}, AtAll m H vs ds → vs.length = ds.length
  | _, _, .nil => rfl
  | _, _, .cons _ q => by rw [List.length_cons, List.length_cons, AtAll.length q]
theorem AtAll.get {m : Addr} {H : Hp} : ∀ {vs : List V} {ds : List PyData} {i : Nat} {v : V}, AtAll m H vs ds → vs[i]? = some v → ∃ d, ds[i]? = some d ∧ At m H v d
  | _, _, _, _, .nil, e => by simp at e
  | _, _, 0, _, .cons h _, e => by
    simp at e
    subst e
    exact ⟨_, rfl, h⟩
  | _, _, i + 1, v, .cons _ q, e => by
    obtain ⟨d, h1, h2⟩ := AtAll.get (i := i) (v := v) q (by simpa using e)
    exact ⟨d, by simpa using h1, h2⟩
theorem AtAll.append {m : Addr} {H : Hp} {v : V} {d : PyData} : ∀ {vs : List V} {ds : List PyData}, AtAll m H vs ds → At m H v d → AtAll m H (vs ++ [v]) (ds ++ [d])
  | _, _, .nil, h => .cons h .nil
  | _, _, .cons h q, e => .cons h (AtAll.append q e)
theorem AtAll.bools {m : Addr} {H : Hp} : ∀ (bs : List Bool), AtAll m H (bs.map V.bl) (bs.map PyData.bool)
  | [] => .nil
  | b :: r => .cons (.bl b) (AtAll.bools r)
theorem AtAll.mem {m : Addr} {H : Hp} {vs : List V} {ds : List PyData} {v : V} (h : AtAll m H vs ds) (hv : v ∈ vs) : ∃ d, d ∈ ds ∧ At m H v d := by
  obtain ⟨i, hi, e⟩ := List.getElem_of_mem hv
  obtain ⟨d, h1, h2⟩ := h.get (i := i) (v := v) (by rw [List.getElem?_eq_getElem hi, e])
  exact ⟨d, List.mem_of_getElem? h1, h2⟩
/-- what type(x) is called -/
def tyS : PyData → String
  | .none => "NoneType" | .bool _ => "bool" | .int _ => "int" | .str _ => "str" | .list _ => "list" | .tuple _ => "tuple" | .dict _ => "dict"
theorem At.ty {K : PySem.W.Frag} {m : Addr} {H : Hp} {v : V} {d : PyData} (h : At m H v d) : TyX K H v (.type (tyS d)) := by
  cases h with
  | non => exact .base .non
  | bl b => exact .base (.bl b)
  | int i => exact .base (.int i)
  | str x => exact .base (.str x)
  | lst n e q => exact .base (.lst e)
  | tup n e q => exact .base (.tup e)
/-- nested at most n deep -/
inductive Lev : Nat → PyData → Prop
  | non (n : Nat) : Lev n .none
  | bl (n : Nat) (b : Bool) : Lev n (.bool b)
  | int (n : Nat) (i : Int) : Lev n (.int i)
  | str (n : Nat) (x : Str) : Lev n (.str x)
  | lst {n : Nat} {ds : List PyData} : ds.length ≤ 5000000 → (∀ x, x ∈ ds → Lev n x) → Lev (n + 1) (.list ds)
  | tup {n : Nat} {ds : List PyData} : ds.length ≤ 5000000 → (∀ x, x ∈ ds → Lev n x) → Lev (n + 1) (.tuple ds)
theorem walk_zipT {K : PySem.W.Frag} {a b : Addr} {xs ys : List V} (hn : xs.length = ys.length) : Walk (RZ.ItzT K a b) xs.length (fun H => SqT K H a xs ∧ SqT K H b ys) (YPair (fun i => xs[i]?) (fun i => ys[i]?)) :=
  ⟨fun i H hi h => ⟨xs, ys, xs[i], ys[i]'(by omega), h.1, h.2, by simp [hi], by simp [show i < ys.length by omega]⟩, fun H h => ⟨xs, ys, h.1, h.2, .inl (Nat.le_refl _)⟩, fun i H v H' hi h y => by
    obtain ⟨T, x, y, e, f, g, q, r⟩ := y
    exact ⟨T, x, y, e, f, g, q xs h.1, r ys h.2⟩⟩
theorem walk_zipL {K : PySem.W.Frag} {a b : Addr} {xs ys : List V} (hn : xs.length = ys.length) : Walk (Itz K a b) xs.length (fun H => SqL K H a xs ∧ SqL K H b ys) (YPair (fun i => xs[i]?) (fun i => ys[i]?)) :=
  ⟨fun i H hi h => ⟨xs, ys, xs[i], ys[i]'(by omega), h.1, h.2, by simp [hi], by simp [show i < ys.length by omega]⟩, fun H h => ⟨xs, ys, h.1, h.2, .inl (Nat.le_refl _)⟩, fun i H v H' hi h y => by
    obtain ⟨T, x, y, e, f, g, q, r⟩ := y
    exact ⟨T, x, y, e, f, g, q xs h.1, r ys h.2⟩⟩
/-- what _law_same promises: two things that are the same data are told so -/
def spSame (n : Nat) : Sp := fun vs H Q _ => ∃ (m : Addr) (x y : V) (d : PyData) (o : HO), vs = [x, y] ∧ H m = some o ∧ At m H x d ∧ At m H y d ∧ Lev n d ∧ ∀ H', Same H H' → Q (.bl true) H'
theorem But.sqL {K : PySem.W.Frag} {p a : Addr} {H H' : Hp} {xs : List V} (b : But p H H') (n : a ≠ p) (h : SqL K H a xs) : SqL K H' a xs := by
  rcases h with h | h
  · rcases h with h | ⟨o, h⟩
    · exact .inl (.inl (b _ _ h n))
    · exact .inl (.inr ⟨o, b _ _ h n⟩)
  · exact .inr h
theorem But.sqT {K : PySem.W.Frag} {p a : Addr} {H H' : Hp} {xs : List V} (b : But p H H') (n : a ≠ p) (h : SqT K H a xs) : SqT K H' a xs := by
  rcases h with h | h
  · rcases h with h | ⟨o, h⟩
    · exact .inl (.inl (b _ _ h n))
    · exact .inl (.inr ⟨o, b _ _ h n⟩)
  · exact .inr h
def kitAnyB (a : String) : List String → Option Bool
  | [] => some false
  | c :: cs => match kitB a c with
    | some true => some true
    | some false => kitAnyB a cs
    | none => none
theorem kit_any {K : PySem.W.Frag} {a : String} : ∀ {cs : List String} {b : Bool}, kitAnyB a cs = some b → PySem.W.kitAny K (.type a) (cs.map Value.type) = some b
  | [], b, h => by
    cases h
    exact kitAny_nil
  | c :: cs, b, h => by
    unfold kitAnyB at h
    cases e : kitB a c with
    | none =>
      rw [e] at h
      cases h
    | some r =>
      rw [e] at h
      cases r with
      | true =>
        cases h
        exact kitAny_cons (kit_ty e) (fun z => by cases z) (fun _ => rfl)
      | false => exact kitAny_cons (kit_ty e) (fun _ => kit_any h) (fun z => by cases z)
theorem cls_all : ∀ (cs : List String), Paired ClsV (cs.map V.ty) (cs.map Value.type)
  | [] => .nil
  | c :: cs => .cons (.ty c) (cls_all cs)
theorem k_NoneType_list : kitB "NoneType" "list" = some false := by decide +kernel
theorem k_NoneType_tuple : kitB "NoneType" "tuple" = some false := by decide +kernel
theorem k_NoneType_int : kitB "NoneType" "int" = some false := by decide +kernel
theorem k_NoneType_bool : kitB "NoneType" "bool" = some false := by decide +kernel
theorem k_NoneType_str : kitB "NoneType" "str" = some false := by decide +kernel
theorem k_NoneType_lt : kitAnyB "NoneType" ["list", "tuple"] = some false := by decide +kernel
theorem k_NoneType_bilt : kitAnyB "NoneType" ["bool", "int", "list", "tuple"] = some false := by decide +kernel
theorem k_bool_list : kitB "bool" "list" = some false := by decide +kernel
theorem k_bool_tuple : kitB "bool" "tuple" = some false := by decide +kernel
theorem k_bool_int : kitB "bool" "int" = some true := by decide +kernel
theorem k_bool_bool : kitB "bool" "bool" = some true := by decide +kernel
theorem k_bool_str : kitB "bool" "str" = some false := by decide +kernel
theorem k_bool_lt : kitAnyB "bool" ["list", "tuple"] = some false := by decide +kernel
theorem k_bool_bilt : kitAnyB "bool" ["bool", "int", "list", "tuple"] = some true := by decide +kernel
theorem k_int_list : kitB "int" "list" = some false := by decide +kernel
theorem k_int_tuple : kitB "int" "tuple" = some false := by decide +kernel
theorem k_int_int : kitB "int" "int" = some true := by decide +kernel
theorem k_int_bool : kitB "int" "bool" = some false := by decide +kernel
theorem k_int_str : kitB "int" "str" = some false := by decide +kernel
theorem k_int_lt : kitAnyB "int" ["list", "tuple"] = some false := by decide +kernel
theorem k_int_bilt : kitAnyB "int" ["bool", "int", "list", "tuple"] = some true := by decide +kernel
theorem k_str_list : kitB "str" "list" = some false := by decide +kernel
theorem k_str_tuple : kitB "str" "tuple" = some false := by decide +kernel
theorem k_str_int : kitB "str" "int" = some false := by decide +kernel
theorem k_str_bool : kitB "str" "bool" = some false := by decide +kernel
theorem k_str_str : kitB "str" "str" = some true := by decide +kernel
theorem k_str_lt : kitAnyB "str" ["list", "tuple"] = some false := by decide +kernel
theorem k_str_bilt : kitAnyB "str" ["bool", "int", "list", "tuple"] = some false := by decide +kernel
theorem k_list_list : kitB "list" "list" = some true := by decide +kernel
theorem k_list_tuple : kitB "list" "tuple" = some false := by decide +kernel
theorem k_list_int : kitB "list" "int" = some false := by decide +kernel
theorem k_list_bool : kitB "list" "bool" = some false := by decide +kernel
theorem k_list_str : kitB "list" "str" = some false := by decide +kernel
theorem k_list_lt : kitAnyB "list" ["list", "tuple"] = some true := by decide +kernel
theorem k_list_bilt : kitAnyB "list" ["bool", "int", "list", "tuple"] = some true := by decide +kernel
theorem k_tuple_list : kitB "tuple" "list" = some false := by decide +kernel
theorem k_tuple_tuple : kitB "tuple" "tuple" = some true := by decide +kernel
theorem k_tuple_int : kitB "tuple" "int" = some false := by decide +kernel
theorem k_tuple_bool : kitB "tuple" "bool" = some false := by decide +kernel
theorem k_tuple_str : kitB "tuple" "str" = some false := by decide +kernel
theorem k_tuple_lt : kitAnyB "tuple" ["list", "tuple"] = some true := by decide +kernel
theorem k_tuple_bilt : kitAnyB "tuple" ["bool", "int", "list", "tuple"] = some true := by decide +kernel
/-- isinstance(x, C) of data, as the reading asks it -/
theorem isi_of {K : PySem.W.Frag} {m : Addr} {H : Hp} {v : V} {d : PyData} {c : String} {b : Bool} {Q : VK} (h : At m H v d) (k : kitB (tyS d) c = some b) (q : Q (.bl b) H) : rIsi K [v, .ty c] H Q :=
  ⟨_, _, _, _, b, rfl, .ty c, h.ty, kit_ty k, q⟩
theorem isiT_of {K : PySem.W.Frag} {m tp : Addr} {H : Hp} {v : V} {d : PyData} {cs : List String} {b : Bool} {Q : VK} (h : At m H v d) (ht : H tp = some (.tup (cs.map V.ty))) (k : kitAnyB (tyS d) cs = some b) (q : Q (.bl b) H) : rIsiT K [v, .ref tp] H Q :=
  ⟨_, _, _, _, _, b, rfl, ht, cls_all cs, h.ty, kit_any k, q⟩
theorem small6 {n : Nat} (h : n < 8000000) : n < sizeLine := Nat.lt_trans h (by decide)
/-- an if whose test leaves the heap as it is, both ways to be shown -/
theorem if_any {c : TT} {t u : TS} {D : Ends} {σ : L2.St} {H : Hp} (h : ∀ K' : Bool → Hp → Prop, K' true H → K' false H → c σ H K') (hT : t D σ H) (hF : u D σ H) : tIfS c t u D σ H := h _ (iteT hT) (iteF hF)
theorem seq_if_any {c : TT} {t u r : TS} {D : Ends} {σ : L2.St} {H : Hp} (h : ∀ K' : Bool → Hp → Prop, K' true H → K' false H → c σ H K') (hT : t { D with nx := r D } σ H) (hF : u { D with nx := r D } σ H) : tSeq (tIfS c t u) r D σ H := h _ (iteT hT) (iteF hF)
theorem by_bool {K' : Bool → Hp → Prop} {H : Hp} (a : K' true H) (b : K' false H) : ∀ c, K' c H
  | true => a
  | false => b
end My

set_option Elab.async false
set_option maxRecDepth 100000
set_option maxHeartbeats 4000000
set_option linter.all false
namespace C81
open PySem L2 My
def top (i : Nat) : Stmt := PySem.Challenge.pw_cursorhouse_k81_orders_and_states_looked.main.body.getD i (.Pass ⟨0, 0, 0, 0⟩)
abbrev sFresh : Stmt := top 35
abbrev sFill : Stmt := top 36
abbrev sTake : Stmt := top 37
abbrev sOne : Stmt := top 38
structure Tx (mg : Str → Option Value) : Prop where
  len : mg "len" = none
  int : mg "int" = none
  enumerate : mg "enumerate" = none
def spFill : Sp := fun vs H Q _ => ∃ (st c : Addr) (ns : List Int), vs = [.ref st] ∧ Drw H st c ns ∧ ns.length ≤ 63 ∧
  ∀ H', Drw H' st c ns → But st H H' → Q .non H'
section
variable {P : Program} {w : World} {K : PySem.W.Frag} {mg : Str → Option Value} {base : Heap}
theorem scFill : FnScope ["_law_state", "_law_cells", "_law_nth", "_law_seed", "_law_k", "_law_prime", "_law_far"] ["_law_state"] (defScope sFill) := ⟨rfl, rfl, rfl, by decide +kernel, rfl, by decide +kernel, by decide +kernel⟩
theorem pr_fill (D : Df K mg "_law_fill" sFill ["_law_state"]) (T : Tx mg) : Pr P w K mg base 1 "_law_fill" ["_law_state"] spFill := by
  refine D.pr scFill (fun vs H Q E h => ?_) (fun f cdv A outer s H vs Q E hr h => ?_)
  · obtain ⟨p, c, ns, rfl, _⟩ := h
    rfl
  · obtain ⟨st, c, ns, rfl, dr, hn, k⟩ := h
    have nd := scFill.nd
    have hne := dr.ne
    obtain ⟨hc, n, v, b, n0, hs⟩ := id dr
    refine ⟨_, (pss_cons (ps_par (by rfl) nd (i := 1) (j := 2) rfl rfl (by decide) rfl rfl (pa_cons (pe_ix ix_list (pv 0) pe_int (fun _ _ => rfl)) (pa_cons (pe_ix ix_list (pv 0) pe_int (fun _ _ => rfl)) pa_nil)) (by rfl))
      (pss_cons (ps_asg (pe_op op_add (pe_op op_mul pe_int (pv 2)) pe_int) (pg_name (i := 3) nd rfl (Or.inl rfl)))
      (Evl.pss_cut (ps_if (pt_cmpR op_gt (pe_callB call_len (by rfl) T.len PySem.boot_len (pa_cons (pv 1) pa_nil)) pe_int (nomark _))
        (pss_one (ps_asg (pe_op op_add (pe_op op_mul pe_int (pe_op op_fdivN (pv 2) (pe_callB call_len (by rfl) T.len PySem.boot_len (pa_cons (pv 1) pa_nil)))) (pe_ix ix_list (pv 1) (pe_op op_modN (pe_callTy call_int1 (by rfl) T.int (by decide +kernel) (pa_cons (pv 2) pa_nil)) (pe_callB call_len (by rfl) T.len PySem.boot_len (pa_cons (pv 1) pa_nil))) (fun _ _ => rfl))) (pg_name (i := 3) nd rfl (Or.inl rfl))))
        pss_nil)
      (pss_cons (ps_asg (pe_op op_add (pv 2) pe_int) (pg_sub (pv 0) pe_int set_list))
      (Evl.pss_cut (ps_asg (pe_or (pe_cmpR op_ge (pv 2) (pe_callB call_len (by rfl) T.len PySem.boot_len (pa_cons (pv 1) pa_nil)) (nomark _)) (pe_one (pe_cmpR op_lt (pv 3) (pe_op op_pow pe_int pe_int) (nomark _)))) (pg_sub (pv 0) pe_int set_list))
      (pss_cons (ps_asg (pe_op op_sub (pv 3) (pe_op op_pow pe_int pe_int)) (pg_sub (pv 0) pe_int set_list))
      (pss_one (ps_if (pt_val (pe_ix ix_list (pv 0) pe_int (fun _ _ => rfl)))
        (pss_cons (ps_asg pe_int (pg_sub (pv 0) pe_int set_list))
        (pss_one (ps_for PassesOwn.never rfl (pi_enumT (by rfl) T.enumerate (pa_cons (pe_tup (pa_cons pe_int (pa_cons pe_int (pa_cons pe_int (pa_cons pe_int (pa_cons pe_int pa_nil)))))) pa_nil)) (pg_tup rfl (pgs_cons (pg_name (i := 4) nd rfl (Or.inl rfl)) (pgs_cons (pg_name (i := 5) nd rfl (Or.inl rfl)) pgs_nil)))
          (pss_cons (ps_asg (pe_op op_modN (pe_callTy call_int1 (by rfl) T.int (by decide +kernel) (pa_cons (pe_op op_mul (pe_op op_add (pe_op op_add (pv 3) (pe_op op_mul (pe_op op_mul pe_int (pv 4)) (pv 4))) (pe_op op_mul pe_int (pv 4))) (pe_op op_add pe_int (pe_op op_mul pe_int (pv 4)))) pa_nil)) (pv 5)) (pg_name (i := 6) nd rfl (Or.inl rfl)))
          (pss_one (ps_asg (pe_op op_add (pe_op op_mul (pe_ix ix_list (pv 0) pe_int (fun _ _ => rfl)) (pv 5)) (pe_op op_modN (pe_callTy call_int1 (by rfl) T.int (by decide +kernel) (pa_cons (pe_op op_pow (pv 6) pe_int) pa_nil)) (pv 5))) (pg_sub (pv 0) pe_int set_list)))))))
        pss_nil)))))))), ?_⟩
    refine ⟨_, rfl, _, _, _, _, rfl, rfl, SqL.of hs, rfl, _, rfl, _, _, _, _, rfl, rfl, SqL.of hs, rfl, _, _, rfl, ?_⟩
    refine ⟨_, rfl, _, _, rfl, rfl, .inl ⟨by decide, by decide⟩, _, _, rfl, rfl, ?_⟩
    refine ⟨fun σ' H' => H' = H ∧ ∃ z : Int, σ' = [some (.ref st), some (.ref c), some (.int n), some (.int z), none, none, none], ?_, ?_⟩
    · refine ⟨_, rfl, _, _, rfl, .inl ⟨_, SqL.of hc, rfl⟩, _, _, rfl, rfl, _, rfl, ?_⟩
      refine ite2 (fun h0 => ?_) (fun _ => ⟨rfl, _, rfl⟩)
      have hl0 : (0 : Int) < ((ns.map V.int).length : Int) := of_decide_eq_true h0
      have hlen : (ns.map V.int).length = ns.length := List.length_map ..
      have hm0 : 0 ≤ n.fmod ((ns.map V.int).length : Int) := Int.fmod_nonneg_of_pos n hl0
      have hm1 : n.fmod ((ns.map V.int).length : Int) < ((ns.map V.int).length : Int) := Int.fmod_lt_of_pos n hl0
      obtain ⟨j, hj⟩ := Int.eq_ofNat_of_zero_le hm0
      have hjl : j < ns.length := by omega
      refine ⟨_, rfl, _, rfl, _, _, rfl, .inl ⟨_, SqL.of hc, rfl⟩, _, _, rfl, rfl, ⟨by omega, by omega⟩, _, _, rfl, rfl, .inl ⟨by decide, by decide⟩, ?_⟩
      refine ⟨_, rfl, _, rfl, .inl ⟨_, rfl, ?_⟩⟩
      refine ⟨_, rfl, _, _, rfl, .inl ⟨_, SqL.of hc, rfl⟩, _, _, rfl, rfl, by omega, ?_⟩
      refine ⟨_, _, _, .int ns[j], rfl, rfl, SqL.of hc, ?_, _, _, rfl, rfl, rfl, _, rfl⟩
      rw [hj]
      exact atI_nat (by simp [hjl])
    · rintro σ' H' ⟨rfl, z, rfl⟩
      -- state[1] = nth + 1; state[3] = ..
      refine ⟨_, rfl, _, _, rfl, rfl, _, rfl, _, _, _, _, rfl, rfl, hs, rfl, ?_⟩
      refine ⟨fun σ' H1 => σ' = [some (.ref st), some (.ref c), some (.int n), some (.int z), none, none, none] ∧ ∃ b2, H1 = upd H' st (.lst [.ref c, .int (n + 1), .int v, .bl b2]), ?_, ?_⟩
      · refine ⟨_, rfl, _, rfl, _, _, rfl, .inl ⟨_, SqL.of (Eq.trans (upd_ne hne) hc), rfl⟩, _, _, rfl, rfl, _, rfl, ?_⟩
        refine ite2 (fun h0 => ?_) (fun _ => ?_)
        · exact ⟨_, rfl, _, _, _, _, rfl, rfl, upd_same, rfl, rfl, _, upd_upd⟩
        · refine ⟨_, rfl, _, _, rfl, rfl, ⟨by decide, by decide, by decide⟩, _, _, rfl, rfl, ?_⟩
          exact ⟨_, rfl, _, _, _, _, rfl, rfl, upd_same, rfl, rfl, _, upd_upd⟩
      · rintro σ' H1 ⟨rfl, b2, rfl⟩
        refine ⟨_, rfl, _, _, rfl, rfl, ⟨by decide, by decide, by decide⟩, _, _, rfl, rfl, _, rfl, _, _, _, _, rfl, rfl, upd_same, rfl, ?_⟩
        rw [upd_upd]
        refine ⟨_, rfl, _, _, _, _, rfl, rfl, SqL.of upd_same, rfl, _, rfl, ?_⟩
        refine ite2 (fun h0 => ?_) (fun _ => ?_)
        · refine ⟨_, rfl, _, _, _, _, rfl, rfl, upd_same, rfl, ?_⟩
          rw [upd_upd]
          refine ⟨by decide, fun tp htp => ⟨_, _, rfl, SqT.of upd_same, ?_⟩⟩
          have dr2 := (dr.put (n := n + 1) (v := 0) (b := b2) (by omega)).new (o := .tup [.int 2147483647, .int 2147483629, .int 2147483587, .int 2147483579, .int 2147483563]) htp
          refine for_it (walk_enumT (xs := [.int 2147483647, .int 2147483629, .int 2147483587, .int 2147483579, .int 2147483563])) (fun i σ H2 => (∃ o4 o5 o6, σ = [some (.ref st), some (.ref c), some (.int n), some (.int z), o4, o5, o6]) ∧ Drw H2 st c ns ∧ But st H' H2 ∧ H2 tp = some (.tup [.int 2147483647, .int 2147483629, .int 2147483587, .int 2147483579, .int 2147483563]))
            ⟨⟨_, _, _, rfl⟩, dr2, (But.refl _ _).upd.new htp, upd_same⟩ (fun i σ H2 _ q => SqT.of q.2.2.2) ?_ ?_
          · rintro i x σ H2 H3 hi ⟨⟨o4, o5, o6, rfl⟩, d2, b2', ht⟩ ⟨T2, i', pr, rfl, hT2, rfl, ei, ep⟩
            obtain rfl : V.int (i : Nat) = i' := Option.some.inj ei
            have hi5 : i < 5 := hi
            obtain ⟨q, rfl, q0, q1⟩ : ∃ q : Int, pr = .int q ∧ 0 < q ∧ q < 4294967296 := by
              have hh : i = 0 ∨ i = 1 ∨ i = 2 ∨ i = 3 ∨ i = 4 := by omega
              rcases hh with rfl | rfl | rfl | rfl | rfl <;> exact ⟨_, (Option.some.inj ep).symm, by decide, by decide⟩
            have d3 := d2.new (o := .tup [.int (i : Nat), .int q]) hT2
            obtain ⟨hc3, n3, v3, b3, n30, hs3⟩ := id d3
            have hst : st ≠ tp := ne_of d2.2.choose_spec.choose_spec.choose_spec.2 ht (by intro z; cases z)
            refine ⟨_, _, rfl, SqT.of upd_same, rfl, _, _, rfl, _, _, rfl, rfl, ?_⟩
            have mI : (-18446744073709551616 : Int) < (i : Int) ∧ (i : Int) < 18446744073709551616 := ⟨by omega, by omega⟩
            refine ⟨_, rfl, _, rfl, _, _, rfl, rfl, .inr mI, _, rfl, _, _, rfl, rfl, .inr mI, _, _, rfl, rfl, _, rfl, _, _, rfl, rfl, .inr mI, _, _, rfl, rfl, _, rfl, _, _, rfl, rfl, .inr mI, _, _, rfl, rfl, _, _, rfl, rfl, .inr ⟨by omega, by omega⟩, .inl ⟨_, rfl, ?_⟩⟩
            refine ⟨_, rfl, _, _, rfl, rfl, by omega, ?_⟩
            have pB : ∀ x : Int, (x.fmod q).natAbs < 2 ^ 64 := fun x => by
              have f0 := Int.fmod_nonneg_of_pos x q0
              have f1 := Int.fmod_lt_of_pos x q0
              omega
            refine ⟨_, rfl, _, _, _, _, rfl, rfl, SqL.of hs3, rfl, _, rfl, _, _, rfl, rfl, .inr ⟨by omega, by omega⟩, _, rfl, _, _, rfl, rfl, ⟨by decide, by decide, pB _⟩, .inl ⟨_, rfl, ?_⟩⟩
            refine ⟨_, rfl, _, _, rfl, rfl, by omega, _, _, rfl, rfl, _, rfl, _, _, _, _, rfl, rfl, hs3, rfl, ?_⟩
            exact ⟨⟨_, _, _, rfl⟩, d3.put n30, (b2'.new hT2).upd, by rw [upd_ne hst.symm, upd_ne (ne_of_none ht hT2)]; exact ht⟩
          · rintro σ H2 ⟨⟨o4, o5, o6, rfl⟩, d2, b2', ht⟩
            exact k _ d2 b2'
        · exact k _ (dr.put (by omega)) (But.refl _ _).upd
def spTake : Sp := fun vs H Q _ => ∃ (st c : Addr) (ns : List Int) (m : Int), vs = [.ref st, .int m] ∧ Drw H st c ns ∧ ns.length ≤ 63 ∧ 0 < m ∧ m ≤ 70000 ∧
  ∀ (d : Int) (H' : Hp), 0 ≤ d → d < m → Drw H' st c ns → But st H H' → Q (.int d) H'
theorem scTake : FnScope ["_law_state", "_law_many", "_law_turns", "_law_digit"] ["_law_state", "_law_many"] (defScope sTake) := ⟨rfl, rfl, rfl, by decide +kernel, rfl, by decide +kernel, by decide +kernel⟩
theorem pr_take (D : Df K mg "_law_take" sTake ["_law_state", "_law_many"]) (T : Tx mg) (PF : Pr P w K mg base 1 "_law_fill" ["_law_state"] spFill) : Pr P w K mg base 2 "_law_take" ["_law_state", "_law_many"] spTake := by
  refine D.pr scTake (fun vs H Q E h => ?_) (fun f cdv A outer s H vs Q E hr h => ?_)
  · obtain ⟨p, c, ns, m, rfl, _⟩ := h
    rfl
  · obtain ⟨st, c, ns, m, rfl, dr, hn, m0, m1, k⟩ := h
    have nd := scTake.nd
    refine ⟨_, (pss_cons (ps_asg pe_int (pg_name (i := 2) nd rfl (Or.inl rfl)))
      (Evl.pss_cut (ps_while PassesOwn.never (PW.pt (pw_and (pt_cmpR op_lt (pv 2) pe_int (nomark _)) (pw_and1 (PW.pt (pw_or (pt_cmpR op_eq (pe_ix ix_list (pv 0) pe_int (fun _ _ => rfl)) pe_int (nomark _)) (pw_or1 (PW.pt (pw_and (pt_val (pe_ix ix_list (pv 0) pe_int (fun _ _ => rfl))) (pw_and1 (pt_cmpR op_lt (pe_ix ix_list (pv 0) pe_int (fun _ _ => rfl)) (pe_op op_mul (pv 1) pe_int) (nomark _)))))))))))
        (pss_cons (ps_expr (pe_callP PF hr (by rfl) (pa_cons (pv 0) pa_nil)))
        (pss_cons (ps_aug (i := 2) nd rfl (Or.inl rfl) pe_int ip_add)
        (pss_one (ps_if (PW.pt (pw_and (pt_val (pe_ix ix_list (pv 0) pe_int (fun _ _ => rfl))) (pw_and1 (pt_cmpR op_lt (pe_ix ix_list (pv 0) pe_int (fun _ _ => rfl)) (pe_op op_mul (pv 1) pe_int) (nomark _)))))
          (pss_one (ps_asg (pe_op op_add (pe_ix ix_list (pv 0) pe_int (fun _ _ => rfl)) (pe_op op_mul (pe_op op_mul (pv 1) pe_int) (pe_op op_add pe_int (pe_op op_modN (pe_callTy call_int1 (by rfl) T.int (by decide +kernel) (pa_cons (pe_ix ix_list (pv 0) pe_int (fun _ _ => rfl)) pa_nil)) pe_int)))) (pg_sub (pv 0) pe_int set_list)))
          pss_nil)))))
      (pss_cons (ps_asg (pe_op op_modN (pe_callTy call_int1 (by rfl) T.int (by decide +kernel) (pa_cons (pe_ix ix_list (pv 0) pe_int (fun _ _ => rfl)) pa_nil)) (pv 1)) (pg_name (i := 3) nd rfl (Or.inl rfl)))
      (pss_cons (ps_asg (pe_op op_fdivN (pe_ix ix_list (pv 0) pe_int (fun _ _ => rfl)) (pv 1)) (pg_sub (pv 0) pe_int set_list))
      (pss_one (ps_ret (pv 3))))))), ?_⟩
    refine ⟨fun σ' H1 => ∃ (t : Int) (o3 : Option V), σ' = [some (.ref st), some (.int m), some (.int t), o3] ∧ Drw H1 st c ns ∧ But st H H1, ?_, ?_⟩
    · refine ⟨fun j σ H1 => ∃ (t : Int) (o3 : Option V), σ = [some (.ref st), some (.int m), some (.int t), o3] ∧ 0 ≤ t ∧ (j : Int) = 64 - t ∧ Drw H1 st c ns ∧ But st H H1, ⟨64, 0, _, rfl, by decide, rfl, dr, But.refl _ _⟩, ?_⟩
      rintro j σ H1 ⟨t, o3, rfl, t0, hj, d1, b1⟩
      obtain ⟨hc, n, v, b, n0, hs⟩ := id d1
      refine ⟨_, rfl, _, _, rfl, rfl, _, rfl, ?_⟩
      refine ite2 (fun ht => ?_) (fun _ => ?_)
      · have ht' : t < 64 := of_decide_eq_true ht
        refine tt_any (fun K' kT kF => ?_) ?_ ?_
        · refine ⟨_, rfl, _, _, _, _, rfl, rfl, SqL.of hs, rfl, rfl, _, rfl, ?_⟩
          refine ite2 (fun _ => kT) (fun _ => ?_)
          refine ⟨_, rfl, _, _, _, _, rfl, rfl, SqL.of hs, rfl, _, rfl, ?_⟩
          refine ite2 (fun _ => ?_) (fun _ => kF)
          refine ⟨_, rfl, _, _, _, _, rfl, rfl, SqL.of hs, rfl, _, rfl, _, _, rfl, rfl, .inr ⟨by decide, by decide⟩, _, _, rfl, rfl, _, rfl, ?_⟩
          exact ite3 (fun _ => kT) (fun _ => kF)
        · refine iteT ⟨fun σ' H2 => ∃ o3', σ' = [some (.ref st), some (.int m), some (.int (t + 1)), o3'] ∧ Drw H2 st c ns ∧ But st H H2, fun σ' H2 ⟨o3', e, d2, b2⟩ => ⟨j - 1, by omega, t + 1, o3', e, by omega, by omega, d2, b2⟩, ?_⟩
          refine ⟨_, rfl, st, c, ns, rfl, d1, hn, fun H2 d2 b2 => ?_⟩
          obtain ⟨hc2, n2, v2, w2, n20, hs2⟩ := id d2
          refine ⟨_, rfl, _, _, rfl, rfl, ?_⟩
          dsimp only
          unfold tIfS
          refine tt_any (fun K' kT kF => ?_) ?_ ?_
          · refine ⟨_, rfl, _, _, _, _, rfl, rfl, SqL.of hs2, rfl, _, rfl, ?_⟩
            refine ite2 (fun _ => ?_) (fun _ => kF)
            refine ⟨_, rfl, _, _, _, _, rfl, rfl, SqL.of hs2, rfl, _, rfl, _, _, rfl, rfl, .inr ⟨by decide, by decide⟩, _, _, rfl, rfl, _, rfl, ?_⟩
            exact ite3 (fun _ => kT) (fun _ => kF)
          · refine iteT ?_
            refine ⟨_, rfl, _, _, _, _, rfl, rfl, SqL.of hs2, rfl, _, rfl, _, _, rfl, rfl, .inr ⟨by decide, by decide⟩, ?_⟩
            refine ⟨_, rfl, _, _, _, _, rfl, rfl, SqL.of hs2, rfl, .inl ⟨_, rfl, ?_⟩⟩
            refine ⟨_, _, rfl, rfl, (by show (4093 : Int) ≠ 0; decide), _, _, rfl, rfl, _, _, rfl, rfl, .inl ⟨by omega, by omega⟩, _, _, rfl, rfl, _, rfl, _, _, _, _, rfl, rfl, hs2, rfl, ?_⟩
            exact ⟨_, rfl, d2.put n20, (b1.trans b2).upd⟩
          · refine iteF ?_
            exact ⟨_, rfl, d2, b1.trans b2⟩
        · exact iteF ⟨_, _, rfl, d1, b1⟩
      · exact iteF ⟨_, _, rfl, d1, b1⟩
    · rintro σ' H1 ⟨t, o3, rfl, d1, b1⟩
      obtain ⟨hc, n, v, b, n0, hs⟩ := id d1
      refine ⟨_, rfl, _, _, _, _, rfl, rfl, SqL.of hs, rfl, .inl ⟨_, rfl, ?_⟩⟩
      refine ⟨_, rfl, _, _, rfl, rfl, by omega, ?_⟩
      refine ⟨_, rfl, _, _, _, _, rfl, rfl, SqL.of hs, rfl, _, rfl, _, _, rfl, rfl, ⟨by omega, by omega⟩, _, rfl, _, _, _, _, rfl, rfl, hs, rfl, ?_⟩
      exact ⟨_, rfl, k _ _ (Int.fmod_nonneg_of_pos _ m0) (Int.fmod_lt_of_pos _ m0) (d1.put n0) b1.upd⟩
/-- one of the things of a list or tuple -/
def spOne (K : PySem.W.Frag) : Sp := fun vs H Q _ => ∃ (st c a : Addr) (ns : List Int) (xs : List V), vs = [.ref st, .ref a] ∧ Drw H st c ns ∧ ns.length ≤ 63 ∧ a ≠ st ∧ (SqL K H a xs ∨ SqT K H a xs) ∧ 0 < xs.length ∧ xs.length ≤ 10000 ∧
  ∀ (x : V) (H' : Hp), x ∈ xs → Drw H' st c ns → But st H H' → Q x H'
theorem scOne : FnScope ["_law_state", "_law_things"] ["_law_state", "_law_things"] (defScope sOne) := ⟨rfl, rfl, rfl, by decide +kernel, rfl, by decide +kernel, by decide +kernel⟩
theorem pr_one (D : Df K mg "_law_one" sOne ["_law_state", "_law_things"]) (T : Tx mg) (PT : Pr P w K mg base 2 "_law_take" ["_law_state", "_law_many"] spTake) : Pr P w K mg base 3 "_law_one" ["_law_state", "_law_things"] (spOne K) := by
  refine D.pr scOne (fun vs H Q E h => ?_) (fun f cdv A outer s H vs Q E hr h => ?_)
  · obtain ⟨p, c, a, ns, xs, rfl, _⟩ := h
    rfl
  · obtain ⟨st, c, a, ns, xs, rfl, dr, hn, hne, hx, x0, x1, k⟩ := h
    refine ⟨_, (pss_one (ps_ret (pe_ix ix_seq (pv 1) (pe_callP PT hr (by rfl) (pa_cons (pv 0) (pa_cons (pe_callB call_len (by rfl) T.len PySem.boot_len (pa_cons (pv 1) pa_nil)) pa_nil))) (fun _ _ => rfl)))), ?_⟩
    refine ⟨_, rfl, _, rfl, _, rfl, _, xs.length, rfl, ?_, ?_⟩
    · rcases hx with h | h
      · exact .inl ⟨_, h, rfl⟩
      · exact .inr ⟨_, h, rfl⟩
    · refine ⟨st, c, ns, _, rfl, dr, hn, by omega, by omega, fun d H' d0 d1 dr' bt => ?_⟩
      obtain ⟨j, rfl⟩ := Int.eq_ofNat_of_zero_le d0
      have hj : j < xs.length := by omega
      rcases hx with h | h
      · exact .inl ⟨_, _, _, _, rfl, rfl, My.But.sqL bt hne h, atI_nat (List.getElem?_eq_getElem hj), k _ _ (List.getElem_mem hj) dr' bt⟩
      · exact .inr (.inl ⟨_, _, _, _, rfl, rfl, My.But.sqT bt hne h, atI_nat (List.getElem?_eq_getElem hj), k _ _ (List.getElem_mem hj) dr' bt⟩)
def spFresh (K : PySem.W.Frag) : Sp := fun vs H Q _ => ∃ (a : Addr) (ns : List Int), vs = [.ref a] ∧ SqL K H a (ns.map V.int) ∧ ns.length ≤ 63 ∧
  ∀ (st c : Addr) (H' : Hp), H st = none → H c = none → Drw H' st c ns → Same H H' → Q (.ref st) H'
theorem scFresh : FnScope ["_law_script_here"] ["_law_script_here"] (defScope sFresh) := ⟨rfl, rfl, rfl, by decide +kernel, rfl, by decide +kernel, by decide +kernel⟩
theorem pr_fresh (D : Df K mg "_law_fresh" sFresh ["_law_script_here"]) : Pr P w K mg base 1 "_law_fresh" ["_law_script_here"] (spFresh K) := by
  refine D.pr scFresh (fun vs H Q E h => ?_) (fun f cdv A outer s H vs Q E hr h => ?_)
  · obtain ⟨a, ns, rfl, _⟩ := h
    rfl
  · obtain ⟨a, ns, rfl, ha, hn, k⟩ := h
    refine ⟨_, (pss_one (ps_ret (pe_lst (pa_cons (pe_slice sl_list (pv 0) po_none (po_some pe_int)) (pa_cons pe_int (pa_cons pe_int (pa_cons pe_bl pa_nil))))))), ?_⟩
    refine ⟨_, rfl, _, rfl, _, _, rfl, ha, fun c hc => ⟨(by show 4 ≤ sizeLine; decide), fun st hst => ?_⟩⟩
    have e : cutV (ns.map V.int) none (some 63) = ns.map V.int := by
      have h1 : HT.sIx (ns.map V.int).length 0 none = 0 := rfl
      have h2 : (ns.map V.int).length ≤ HT.sIx (ns.map V.int).length (ns.map V.int).length (some 63) := by
        rw [List.length_map]
        show ns.length ≤ HT.sIx ns.length ns.length (some 63)
        unfold HT.sIx
        simp
        omega
      unfold cutV
      rw [h1, List.drop_zero, Nat.sub_zero, List.take_of_length_le h2]
    have hst0 : H st = none := by
      by_cases q : st = c
      · rw [q, upd_same] at hst
        cases hst
      · rw [upd_ne q] at hst
        exact hst
    refine k st c _ hst0 hc ⟨?_, 0, 0, false, by decide, upd_same⟩ fun b o hb => ?_
    · rw [upd_ne (ne_of_none upd_same hst), upd_same, e]
    · rw [upd_ne (ne_of_none hb hst0), upd_ne (ne_of_none hb hc)]
      exact hb
end
end C81

set_option Elab.async false
set_option maxRecDepth 100000
set_option maxHeartbeats 4000000
set_option linter.all false
namespace C81
open PySem L2 My
abbrev sSame : Stmt := top 40
structure Ty (mg : Str → Option Value) : Prop where
  len : mg "len" = none
  int : mg "int" = none
  bool : mg "bool" = none
  list : mg "list" = none
  tuple : mg "tuple" = none
  isinstance : mg "isinstance" = none
  all : mg "all" = none
  zip : mg "zip" = none
def spS : Nat → Sp
  | 0 => fun _ _ _ _ => False
  | n + 1 => spSame n
section
variable {P : Program} {w : World} {K : PySem.W.Frag} {mg : Str → Option Value} {base : Heap}
abbrev nSame : List Str := ["_law_found", "_law_due", "_law_a", "_law_b"]
theorem scSame : FnScope nSame ["_law_found", "_law_due"] (defScope sSame) := ⟨rfl, rfl, rfl, by decide +kernel, rfl, by decide +kernel, by decide +kernel⟩
theorem step_same {n : Nat} (D : Df K mg "_law_same" sSame ["_law_found", "_law_due"]) (T : Ty mg) (PS : Pr P w K mg base n "_law_same" ["_law_found", "_law_due"] (spS n)) : Pr P w K mg base (n + 1) "_law_same" ["_law_found", "_law_due"] (spSame n) := by
  refine D.pr scSame (fun vs H Q E h => ?_) (fun f cdv A outer s H vs Q E hr h => ?_)
  · obtain ⟨m, x, y, d, o, rfl, _⟩ := h
    rfl
  · obtain ⟨m, x, y, d, o, rfl, hm, hx, hy, lv, k⟩ := h
    have nd := scSame.nd
    refine ⟨_, (pss_cons (ps_if (pt_val (pe_callB call_isiT (by rfl) T.isinstance (by decide +kernel) (pa_cons (pv 1) (pa_cons (pe_tup (pa_cons (pe_bltn (v := .ty "list") (by rfl) T.list (by decide +kernel) rfl) (pa_cons (pe_bltn (v := .ty "tuple") (by rfl) T.tuple (by decide +kernel) rfl) pa_nil))) pa_nil))))
        (pss_cons (ps_if (PW.pt (pw_or (pt_cmpR op_ne (pe_callB call_isi (by rfl) T.isinstance (by decide +kernel) (pa_cons (pv 0) (pa_cons (pe_bltn (v := .ty "list") (by rfl) T.list (by decide +kernel) rfl) pa_nil))) (pe_callB call_isi (by rfl) T.isinstance (by decide +kernel) (pa_cons (pv 1) (pa_cons (pe_bltn (v := .ty "list") (by rfl) T.list (by decide +kernel) rfl) pa_nil))) (nomark _)) (pw_or1 (pt_cmpR op_ne (pe_callB call_isi (by rfl) T.isinstance (by decide +kernel) (pa_cons (pv 0) (pa_cons (pe_bltn (v := .ty "tuple") (by rfl) T.tuple (by decide +kernel) rfl) pa_nil))) (pe_callB call_isi (by rfl) T.isinstance (by decide +kernel) (pa_cons (pv 1) (pa_cons (pe_bltn (v := .ty "tuple") (by rfl) T.tuple (by decide +kernel) rfl) pa_nil))) (nomark _)))))
          (pss_one (ps_ret pe_bl))
          pss_nil)
        (pss_one (ps_ret (pe_and (pe_cmpR op_eq (pe_callB call_len (by rfl) T.len PySem.boot_len (pa_cons (pv 0) pa_nil)) (pe_callB call_len (by rfl) T.len PySem.boot_len (pa_cons (pv 1) pa_nil)) (nomark _)) (pe_one (pe_callB (cr_all rfl) (by rfl) T.all (by decide +kernel) (pa_cons (pe_lc (own := [("_law_a", 2), ("_law_b", 3)]) (g := gTup K 2 (gCons (gName 2) (gCons (gName 3) gNil))) (tt := tYes) (by rfl) nd (RZ.pi_zipA (by rfl) T.zip (pa_cons (pv 0) (pa_cons (pv 1) pa_nil)))
  (blkOk_by (own := [("_law_a", 2), ("_law_b", 3)]) (N := nSame) (sc := defScope sSame) (by decide +kernel))
  (fun _ _ _ _ _ => pg_tup rfl (pgs_cons (pg_name (i := 2) nd rfl (Or.inl rfl) (Or.inr rfl)) (pgs_cons (pg_name (i := 3) nd rfl (Or.inl rfl) (Or.inr rfl)) pgs_nil))) (fun _ _ _ _ _ => pts_nil)
  (fun _ _ _ _ _ => (pe_callP PS hr (by rfl) (pa_cons (pv 2) (pa_cons (pv 3) pa_nil))))) pa_nil)))))))
        pss_nil)
      (pss_cons (ps_if (pt_val (pe_callB call_isi (by rfl) T.isinstance (by decide +kernel) (pa_cons (pv 1) (pa_cons (pe_bltn (v := .ty "int") (by rfl) T.int (by decide +kernel) rfl) pa_nil))))
        (pss_one (ps_ret (pe_and (pe_callB call_isi (by rfl) T.isinstance (by decide +kernel) (pa_cons (pv 0) (pa_cons (pe_bltn (v := .ty "int") (by rfl) T.int (by decide +kernel) rfl) pa_nil))) (pe_and (pe_cmpR op_eq (pe_callB call_isi (by rfl) T.isinstance (by decide +kernel) (pa_cons (pv 0) (pa_cons (pe_bltn (v := .ty "bool") (by rfl) T.bool (by decide +kernel) rfl) pa_nil))) (pe_callB call_isi (by rfl) T.isinstance (by decide +kernel) (pa_cons (pv 1) (pa_cons (pe_bltn (v := .ty "bool") (by rfl) T.bool (by decide +kernel) rfl) pa_nil))) (nomark _)) (pe_one (pe_cmpR op_eq (pv 0) (pv 1) (nomark _)))))))
        pss_nil)
      (pss_one (ps_ret (pe_and (pe_cmpR op_isBl (pe_callB call_isiT (by rfl) T.isinstance (by decide +kernel) (pa_cons (pv 0) (pa_cons (pe_tup (pa_cons (pe_bltn (v := .ty "bool") (by rfl) T.bool (by decide +kernel) rfl) (pa_cons (pe_bltn (v := .ty "int") (by rfl) T.int (by decide +kernel) rfl) (pa_cons (pe_bltn (v := .ty "list") (by rfl) T.list (by decide +kernel) rfl) (pa_cons (pe_bltn (v := .ty "tuple") (by rfl) T.tuple (by decide +kernel) rfl) pa_nil))))) pa_nil))) pe_bl (nomark _)) (pe_one (pe_cmpR op_eq (pv 0) (pv 1) (nomark _)))))))), ?_⟩
    refine ⟨_, rfl, (by show 2 ≤ sizeLine; decide), fun tp htp => ?_⟩
    have s1 : Same H (upd H tp (.tup [.ty "list", .ty "tuple"])) := fun b o e => by
      rw [upd_ne (ne_of_none e htp)]
      exact e
    have hx1 := hx.mono (Same.but s1)
    have hy1 := hy.mono (Same.but s1)
    have hxs : ∀ H', Same H H' → At m H' x d := fun H' s => hx.mono (Same.but s)
    cases lv with
    | non n =>
      cases hx
      cases hy
      refine ⟨_, _, _, _, _, false, rfl, upd_same, cls_all ["list", "tuple"], (hy1).ty, kit_any k_NoneType_lt, ?_⟩
      refine ⟨_, rfl, iteF ?_⟩
      refine ⟨_, rfl, ?_⟩
      refine ⟨_, _, _, _, false, rfl, .ty _, hy1.ty, kit_ty k_NoneType_int, ?_⟩
      refine ⟨_, rfl, iteF ?_⟩
      refine ⟨_, rfl, (by show 4 ≤ sizeLine; decide), fun tq htq => ?_⟩
      have s2 : Same H (upd (upd H tp (.tup [.ty "list", .ty "tuple"])) tq (.tup [.ty "bool", .ty "int", .ty "list", .ty "tuple"])) := fun b o e => by
        rw [upd_ne (ne_of_none (s1 _ _ e) htq)]
        exact s1 _ _ e
      refine ⟨_, _, _, _, _, false, rfl, upd_same, cls_all ["bool", "int", "list", "tuple"], (hxs _ s2).ty, kit_any k_NoneType_bilt, ?_⟩
      refine ⟨_, _, rfl, rfl, _, rfl, iteT ?_⟩
      refine ⟨_, rfl, _, rfl, rfl, ?_⟩
      rw [decide_eq_true rfl]
      exact k _ s2
    | bl n b =>
      cases hx
      cases hy
      refine ⟨_, _, _, _, _, false, rfl, upd_same, cls_all ["list", "tuple"], (hy1).ty, kit_any k_bool_lt, ?_⟩
      refine ⟨_, rfl, iteF ?_⟩
      refine ⟨_, rfl, ?_⟩
      refine ⟨_, _, _, _, true, rfl, .ty _, hy1.ty, kit_ty k_bool_int, ?_⟩
      refine ⟨_, rfl, iteT ?_⟩
      refine ⟨_, rfl, ?_⟩
      refine ⟨_, _, _, _, true, rfl, .ty _, hx1.ty, kit_ty k_bool_int, ?_⟩
      refine ⟨_, rfl, iteT ?_⟩
      refine ⟨_, rfl, ?_⟩
      refine ⟨_, _, _, _, true, rfl, .ty _, hx1.ty, kit_ty k_bool_bool, ?_⟩
      refine ⟨_, rfl, ?_⟩
      refine ⟨_, _, _, _, true, rfl, .ty _, hy1.ty, kit_ty k_bool_bool, ?_⟩
      refine ⟨rfl, _, rfl, iteT ?_⟩
      refine ⟨_, rfl, _, rfl, rfl, ?_⟩
      rw [decide_eq_true rfl]
      exact k _ s1
    | int n i =>
      cases hx
      cases hy
      refine ⟨_, _, _, _, _, false, rfl, upd_same, cls_all ["list", "tuple"], (hy1).ty, kit_any k_int_lt, ?_⟩
      refine ⟨_, rfl, iteF ?_⟩
      refine ⟨_, rfl, ?_⟩
      refine ⟨_, _, _, _, true, rfl, .ty _, hy1.ty, kit_ty k_int_int, ?_⟩
      refine ⟨_, rfl, iteT ?_⟩
      refine ⟨_, rfl, ?_⟩
      refine ⟨_, _, _, _, true, rfl, .ty _, hx1.ty, kit_ty k_int_int, ?_⟩
      refine ⟨_, rfl, iteT ?_⟩
      refine ⟨_, rfl, ?_⟩
      refine ⟨_, _, _, _, false, rfl, .ty _, hx1.ty, kit_ty k_int_bool, ?_⟩
      refine ⟨_, rfl, ?_⟩
      refine ⟨_, _, _, _, false, rfl, .ty _, hy1.ty, kit_ty k_int_bool, ?_⟩
      refine ⟨rfl, _, rfl, iteT ?_⟩
      refine ⟨_, rfl, _, rfl, rfl, ?_⟩
      rw [decide_eq_true rfl]
      exact k _ s1
    | str n z =>
      cases hx
      cases hy
      refine ⟨_, _, _, _, _, false, rfl, upd_same, cls_all ["list", "tuple"], (hy1).ty, kit_any k_str_lt, ?_⟩
      refine ⟨_, rfl, iteF ?_⟩
      refine ⟨_, rfl, ?_⟩
      refine ⟨_, _, _, _, false, rfl, .ty _, hy1.ty, kit_ty k_str_int, ?_⟩
      refine ⟨_, rfl, iteF ?_⟩
      refine ⟨_, rfl, (by show 4 ≤ sizeLine; decide), fun tq htq => ?_⟩
      have s2 : Same H (upd (upd H tp (.tup [.ty "list", .ty "tuple"])) tq (.tup [.ty "bool", .ty "int", .ty "list", .ty "tuple"])) := fun b o e => by
        rw [upd_ne (ne_of_none (s1 _ _ e) htq)]
        exact s1 _ _ e
      refine ⟨_, _, _, _, _, false, rfl, upd_same, cls_all ["bool", "int", "list", "tuple"], (hxs _ s2).ty, kit_any k_str_bilt, ?_⟩
      refine ⟨_, _, rfl, rfl, _, rfl, iteT ?_⟩
      refine ⟨_, rfl, _, rfl, rfl, ?_⟩
      rw [decide_eq_true rfl]
      exact k _ s2
    | lst sz lv0 =>
      rename_i n0 ds0
      obtain ⟨a, xs, nx, ex, qx⟩ : ∃ a xs, a ≠ m ∧ (x = .ref a ∧ H a = some (.lst xs)) ∧ AtAll m H xs ds0 := by
        cases hx with
        | lst n0 h0 q0 => exact ⟨_, _, n0, ⟨rfl, h0⟩, q0⟩
      obtain ⟨b, ys, ny, ey, qy⟩ : ∃ b ys, b ≠ m ∧ (y = .ref b ∧ H b = some (.lst ys)) ∧ AtAll m H ys ds0 := by
        cases hy with
        | lst n0 h0 q0 => exact ⟨_, _, n0, ⟨rfl, h0⟩, q0⟩
      obtain ⟨rfl, ex⟩ := ex
      obtain ⟨rfl, ey⟩ := ey
      have lx := qx.length
      have ly := qy.length
      refine ⟨_, _, _, _, _, true, rfl, upd_same, cls_all ["list", "tuple"], (hy1).ty, kit_any k_list_lt, ?_⟩
      refine ⟨_, rfl, iteT ?_⟩
      refine ⟨_, rfl, ?_⟩
      refine ⟨_, _, _, _, true, rfl, .ty _, hx1.ty, kit_ty k_list_list, ?_⟩
      refine ⟨_, rfl, ?_⟩
      refine ⟨_, _, _, _, true, rfl, .ty _, hy1.ty, kit_ty k_list_list, ?_⟩
      refine ⟨rfl, _, rfl, iteF ?_⟩
      refine ⟨_, rfl, ?_⟩
      refine ⟨_, _, _, _, false, rfl, .ty _, hx1.ty, kit_ty k_list_tuple, ?_⟩
      refine ⟨_, rfl, ?_⟩
      refine ⟨_, _, _, _, false, rfl, .ty _, hy1.ty, kit_ty k_list_tuple, ?_⟩
      refine ⟨rfl, _, rfl, iteF ?_⟩
      refine ⟨_, rfl, _, _, rfl, .inl ⟨_, SqL.of (s1 _ _ ex), rfl⟩, _, rfl, _, _, rfl, .inl ⟨_, SqL.of (s1 _ _ ey), rfl⟩, rfl, ?_⟩
      have el : decide (V.int (xs.length : Int) = V.int (ys.length : Int)) = true := decide_eq_true (by rw [lx, ly])
      refine ⟨true, congrArg V.bl el, iteT ?_⟩
      refine ⟨_, rfl, _, rfl, _, _, _, _, rfl, .inl ⟨SqL.of (s1 _ _ ex), SqL.of (s1 _ _ ey), ?_⟩⟩
      intro Dl hD
      refine lc_it (walk_zipL (lx.trans ly.symm)) (fun i H2 => Same H H2 ∧ H Dl = none ∧ H2 Dl = some (.lst ((List.replicate i true).map V.bl))) ?_ ?_ ?_ ?_
      · exact ⟨fun b o e => by rw [upd_ne (ne_of_none (s1 _ _ e) hD)]; exact s1 _ _ e, s1.free hD, upd_same⟩
      · exact fun i H2 _ q => ⟨SqL.of (q.1 _ _ ex), SqL.of (q.1 _ _ ey)⟩
      · rintro i z H2 H3 hi ⟨sm, nD, hl⟩ ⟨T2, u, v, rfl, hT2, rfl, eu, ev⟩
        have nDT : Dl ≠ T2 := ne_of_none hl hT2
        have s3 : Same H (upd H2 T2 (.tup [u, v])) := fun b o e => by
          rw [upd_ne (ne_of_none (sm _ _ e) hT2)]
          exact sm _ _ e
        obtain ⟨du, e1, au⟩ := qx.get eu
        obtain ⟨dv, e2, av⟩ := qy.get ev
        obtain rfl : du = dv := Option.some.inj (e1.symm.trans e2)
        refine ⟨_, _, rfl, SqT.of upd_same, rfl, _, _, rfl, _, _, rfl, rfl, rfl, ?_⟩
        refine ⟨_, rfl, _, rfl, m, u, v, du, o, rfl, s3 _ _ hm, au.mono (Same.but s3), av.mono (Same.but s3), lv0 _ (List.mem_of_getElem? e1), fun H4 s4 => ?_⟩
        refine ⟨_, s4 _ _ (by rw [upd_ne nDT]; exact hl), ?_, ?_⟩
        · rw [List.length_map, List.length_replicate]
          exact small6 (by omega)
        · refine ⟨fun b o e => ?_, nD, ?_⟩
          · rw [upd_ne (ne_of_none e nD)]
            exact s4 _ _ (s3 _ _ e)
          · rw [upd_same, List.replicate_succ', List.map_append]
            rfl
      · rintro H2 ⟨sm, nD, hl⟩
        refine ⟨_, _, rfl, SqL.of hl, ?_⟩
        have ea : (List.replicate xs.length true).all id = true := by
          rw [List.all_eq_true]
          intro b hb
          rw [List.eq_of_mem_replicate hb]
          rfl
        rw [ea]
        exact k _ sm
    | tup sz lv0 =>
      rename_i n0 ds0
      obtain ⟨a, xs, nx, ex, qx⟩ : ∃ a xs, a ≠ m ∧ (x = .ref a ∧ H a = some (.tup xs)) ∧ AtAll m H xs ds0 := by
        cases hx with
        | tup n0 h0 q0 => exact ⟨_, _, n0, ⟨rfl, h0⟩, q0⟩
      obtain ⟨b, ys, ny, ey, qy⟩ : ∃ b ys, b ≠ m ∧ (y = .ref b ∧ H b = some (.tup ys)) ∧ AtAll m H ys ds0 := by
        cases hy with
        | tup n0 h0 q0 => exact ⟨_, _, n0, ⟨rfl, h0⟩, q0⟩
      obtain ⟨rfl, ex⟩ := ex
      obtain ⟨rfl, ey⟩ := ey
      have lx := qx.length
      have ly := qy.length
      refine ⟨_, _, _, _, _, true, rfl, upd_same, cls_all ["list", "tuple"], (hy1).ty, kit_any k_tuple_lt, ?_⟩
      refine ⟨_, rfl, iteT ?_⟩
      refine ⟨_, rfl, ?_⟩
      refine ⟨_, _, _, _, false, rfl, .ty _, hx1.ty, kit_ty k_tuple_list, ?_⟩
      refine ⟨_, rfl, ?_⟩
      refine ⟨_, _, _, _, false, rfl, .ty _, hy1.ty, kit_ty k_tuple_list, ?_⟩
      refine ⟨rfl, _, rfl, iteF ?_⟩
      refine ⟨_, rfl, ?_⟩
      refine ⟨_, _, _, _, true, rfl, .ty _, hx1.ty, kit_ty k_tuple_tuple, ?_⟩
      refine ⟨_, rfl, ?_⟩
      refine ⟨_, _, _, _, true, rfl, .ty _, hy1.ty, kit_ty k_tuple_tuple, ?_⟩
      refine ⟨rfl, _, rfl, iteF ?_⟩
      refine ⟨_, rfl, _, _, rfl, .inr ⟨_, SqT.of (s1 _ _ ex), rfl⟩, _, rfl, _, _, rfl, .inr ⟨_, SqT.of (s1 _ _ ey), rfl⟩, rfl, ?_⟩
      have el : decide (V.int (xs.length : Int) = V.int (ys.length : Int)) = true := decide_eq_true (by rw [lx, ly])
      refine ⟨true, congrArg V.bl el, iteT ?_⟩
      refine ⟨_, rfl, _, rfl, _, _, _, _, rfl, .inr ⟨SqT.of (s1 _ _ ex), SqT.of (s1 _ _ ey), ?_⟩⟩
      intro Dl hD
      refine lc_it (walk_zipT (lx.trans ly.symm)) (fun i H2 => Same H H2 ∧ H Dl = none ∧ H2 Dl = some (.lst ((List.replicate i true).map V.bl))) ?_ ?_ ?_ ?_
      · exact ⟨fun b o e => by rw [upd_ne (ne_of_none (s1 _ _ e) hD)]; exact s1 _ _ e, s1.free hD, upd_same⟩
      · exact fun i H2 _ q => ⟨SqT.of (q.1 _ _ ex), SqT.of (q.1 _ _ ey)⟩
      · rintro i z H2 H3 hi ⟨sm, nD, hl⟩ ⟨T2, u, v, rfl, hT2, rfl, eu, ev⟩
        have nDT : Dl ≠ T2 := ne_of_none hl hT2
        have s3 : Same H (upd H2 T2 (.tup [u, v])) := fun b o e => by
          rw [upd_ne (ne_of_none (sm _ _ e) hT2)]
          exact sm _ _ e
        obtain ⟨du, e1, au⟩ := qx.get eu
        obtain ⟨dv, e2, av⟩ := qy.get ev
        obtain rfl : du = dv := Option.some.inj (e1.symm.trans e2)
        refine ⟨_, _, rfl, SqT.of upd_same, rfl, _, _, rfl, _, _, rfl, rfl, rfl, ?_⟩
        refine ⟨_, rfl, _, rfl, m, u, v, du, o, rfl, s3 _ _ hm, au.mono (Same.but s3), av.mono (Same.but s3), lv0 _ (List.mem_of_getElem? e1), fun H4 s4 => ?_⟩
        refine ⟨_, s4 _ _ (by rw [upd_ne nDT]; exact hl), ?_, ?_⟩
        · rw [List.length_map, List.length_replicate]
          exact small6 (by omega)
        · refine ⟨fun b o e => ?_, nD, ?_⟩
          · rw [upd_ne (ne_of_none e nD)]
            exact s4 _ _ (s3 _ _ e)
          · rw [upd_same, List.replicate_succ', List.map_append]
            rfl
      · rintro H2 ⟨sm, nD, hl⟩
        refine ⟨_, _, rfl, SqL.of hl, ?_⟩
        have ea : (List.replicate xs.length true).all id = true := by
          rw [List.all_eq_true]
          intro b hb
          rw [List.eq_of_mem_replicate hb]
          rfl
        rw [ea]
        exact k _ sm
theorem pr_same (D : Df K mg "_law_same" sSame ["_law_found", "_law_due"]) (T : Ty mg) : ∀ n, Pr P w K mg base n "_law_same" ["_law_found", "_law_due"] (spS n)
  | 0 => by
    obtain ⟨f, fd, F, b, g⟩ := D
    exact ⟨f, fd, ⟨fun _ _ _ _ h => h.elim, fun _ _ _ _ _ _ _ _ _ _ _ _ _ h => h.elim⟩, g, F.kp, b⟩
  | n + 1 => step_same D T (pr_same D T n)
end
end C81

set_option Elab.async false
set_option maxRecDepth 100000
set_option maxHeartbeats 4000000
set_option linter.all false
/-! max(xs, default=z) of a list of ints -/
namespace My
open PySem PySem.Spec PyProof.Rows L2
def topOf (z : Int) : List Int → Int
  | [] => z
  | n :: r => r.foldl max n
def rMaxD (K : PySem.W.Frag) : List V → List V → Hp → VK → Prop := fun xs zs H Q => ∃ (a : Addr) (ns : List Int) (z : Int), xs = [.ref a] ∧ zs = [.int z] ∧ SqL K H a (ns.map V.int) ∧ Q (.int (topOf z ns)) H
theorem ints_reads {h : Heap} : ∀ {ns : List Int} {us : List Value}, Vals (ns.map V.int) us → ReadsAll h us (ns.map PyData.int) []
  | [], _, .nil => .nil
  | n :: r, _, .cons e q => by
    obtain ⟨t, rfl⟩ := e
    exact .cons (.int n t) (ints_reads q)
theorem ints_alike (ns : List Int) : PySem.W.AlikeAll (ns.map PyData.int) := by
  refine ⟨fun x hx y hy => ?_, fun x hx => ?_⟩
  · obtain ⟨i, _, rfl⟩ := List.mem_map.mp hx
    obtain ⟨j, _, rfl⟩ := List.mem_map.mp hy
    simp [PySem.W.alike]
  · obtain ⟨i, _, rfl⟩ := List.mem_map.mp hx
    exact fun z => nomatch z
theorem ints_depth : ∀ ns : List Int, PyData.depthAll (ns.map PyData.int) ≤ 1
  | [] => Nat.zero_le _
  | n :: r => by
    have := ints_depth r
    simp [PyData.depthAll, PyData.depth]
    omega
theorem cr_maxD {X : Cx} (hc : X.calm = true) (hu : X.A.units + 64 < cLine) : CallRK X (.builtin "max") ["default"] (rMaxD X.K) := by
  intro pins s σ H xs zs us ws Q I rx rz h
  obtain ⟨a, ns, z, rfl, rfl, hq, q⟩ := h
  cases rz with
  | cons rz1 rr =>
    cases rr
    obtain ⟨tz, rfl⟩ := rz1
    rw [Vals.ref1 rx]
    obtain ⟨its, rv, hl, _⟩ := I.list hq
    have hd := ints_depth ns
    refine PySem.W.max_list_default (I.ok.hd hc) hl.isList (xs := ns.map PyData.int) (by simpa using ints_reads rv) (ints_alike ns) (by omega) (fun e h' tk hk => ?_) (fun y ys i v h' tk bs e hv rd hk => ?_)
    · cases ns with
      | nil => exact ⟨.int z, H, I.kept (t' := tk) hk, ⟨_, rfl⟩, q⟩
      | cons n r => cases e
    · cases ns with
      | nil => cases e
      | cons n r =>
        injection e with e1 e2
        subst e1 e2
        rw [PySem.W.maxD_ints] at rd
        cases rd
        exact ⟨.int _, H, I.kept (t' := tk) hk, ⟨_, rfl⟩, q⟩
end My

set_option Elab.async false
set_option maxRecDepth 100000
set_option linter.all false
/-! The mirror of the scripts' steps: words, rows, locks. -/
namespace M78
open PySem L2 My
inductive Wd where
  | beg | imm | exc | com | rol | rea | sta | sto | wri
  deriving DecidableEq
def wS : Wd → Str
  | .beg => "begin" | .imm => "immediate" | .exc => "exclusive" | .com => "commit" | .rol => "rollback" | .rea => "read" | .sta => "start" | .sto => "stop" | .wri => "write"
theorem eqW (w v : Wd) : decide (V.str (wS w) = V.str (wS v)) = decide (w = v) := by
  cases w <;> cases v <;> decide +kernel
structure Row where
  p : Int
  o : Bool
  r : Bool
  l : Int
  deriving DecidableEq
def rowV (x : Row) : List V := [.int x.p, .bl x.o, .bl x.r, .int x.l]
def rowD (x : Row) : PyData := .tuple [.int x.p, .bool x.o, .bool x.r, .int x.l]
def oV : Option Int → V
  | none => .non
  | some i => .int i
def isOp (w : Wd) : Bool := w == .beg || (w == .imm || w == .exc)
def isEn (w : Wd) : Bool := w == .com || w == .rol
def isRs (w : Wd) : Bool := w == .rea || w == .sta
def isRsw (w : Wd) : Bool := w == .rea || (w == .sta || w == .wri)
theorem in_op (w : Wd) : inV (.str (wS w)) [.str (Str.ofString "begin"), .str (Str.ofString "immediate"), .str (Str.ofString "exclusive")] = isOp w := by cases w <;> decide +kernel
theorem in_en (w : Wd) : inV (.str (wS w)) [.str (Str.ofString "commit"), .str (Str.ofString "rollback")] = isEn w := by cases w <;> decide +kernel
theorem in_rs (w : Wd) : inV (.str (wS w)) [.str (Str.ofString "read"), .str (Str.ofString "start")] = isRs w := by cases w <;> decide +kernel
theorem in_rsw (w : Wd) : inV (.str (wS w)) [.str (Str.ofString "read"), .str (Str.ofString "start"), .str (Str.ofString "write")] = isRsw w := by cases w <;> decide +kernel
def restL (b : Bool) : Int := if b then 1 else 0
def openL (w : Wd) (l t : Int) : Option Int := if w = .beg then some l else if w = .imm then (if 2 ≤ t then none else some 2) else (if 1 ≤ t then none else some 4)
def workL (w : Wd) (x : Row) (t : Int) : Option Int :=
  if isRs w = true then (if x.l = 0 ∧ 3 ≤ t then none else if x.o = true then some (max x.l 1) else some (restL (x.r || decide (w = .sta))))
  else (if x.l < 2 ∧ 2 ≤ t then none else if x.o = true then some (max x.l 2) else if 1 ≤ t then none else some (restL x.r))
/-- what is left behind a step whose lock is known -/
def endL (x : Row) (o r : Bool) : Option Int → Row × Bool
  | none => (x, true)
  | some l => (⟨x.p + 1, o, r, l⟩, false)
def triedM (w : Wd) (x : Row) (t : Int) : Row × Bool :=
  if isOp w = true then endL x true x.r (openL w x.l t)
  else if isRsw w = true then endL x x.o (x.r || decide (w = .sta)) (workL w x t)
  else if w = .sto then endL x x.o false (some (if x.o = true then x.l else 0))
  else if w = .com ∧ 2 ≤ x.l ∧ 1 ≤ t then (⟨x.p, x.o, x.r, max x.l 3⟩, true)
  else endL x false x.r (some (restL x.r))
theorem max2 (i j : Int) : (if j > i then j else i) = max i j := by
  by_cases h : j > i
  · rw [if_pos h]
    omega
  · rw [if_neg h]
    omega
/-- an if whose test has the answer b and leaves the heap -/
theorem if_tv {c : TT} {t u : TS} {D : Ends} {σ : L2.St} {H : Hp} (b : Bool) (h : ∀ K : Bool → Hp → Prop, K b H → c σ H K) (hT : b = true → t D σ H) (hF : b = false → u D σ H) : tIfS c t u D σ H := h _ (by
  cases b
  · exact iteF (hF rfl)
  · exact iteT (hT rfl))
theorem seq_if_tv {c : TT} {t u r : TS} {D : Ends} {σ : L2.St} {H : Hp} (b : Bool) (h : ∀ K : Bool → Hp → Prop, K b H → c σ H K) (hT : b = true → t { D with nx := r D } σ H) (hF : b = false → u { D with nx := r D } σ H) : tSeq (tIfS c t u) r D σ H := if_tv b h hT hF
theorem vint (i j : Int) : decide (V.int i = V.int j) = decide (i = j) := by
  by_cases h : i = j
  · rw [decide_eq_true h, h]
    exact decide_eq_true rfl
  · rw [decide_eq_false h]
    exact decide_eq_false fun z => h (V.int.inj z)
/-! states -/
def othL (xs : List Row) (j : Nat) : Nat → List Int
  | 0 => []
  | n + 1 => othL xs j n ++ (if n = j then [] else match xs[n]? with | some x => [x.l] | none => [])
theorem othL_len (xs : List Row) (j : Nat) : ∀ n, (othL xs j n).length ≤ n
  | 0 => Nat.le_refl _
  | n + 1 => by
    have := othL_len xs j n
    unfold othL
    rw [List.length_append]
    split
    · simp
      omega
    · split
      · simp
        omega
      · simp
        omega
def topM (xs : List Row) (j : Nat) : Int := topOf 0 (othL xs j xs.length)
def scD (ss : List (List Wd)) : PyData := .tuple (ss.map fun sc => .tuple (sc.map fun v => .str (wS v)))
def stD (xs : List Row) : PyData := .tuple (xs.map rowD)
section
variable {m : Addr} {H : Hp} {a : Addr}
theorem at_tup {v : V} {ds : List PyData} (h : At m H v (.tuple ds)) : ∃ a vs, v = .ref a ∧ a ≠ m ∧ H a = some (.tup vs) ∧ AtAll m H vs ds := by
  cases h with
  | tup n e q => exact ⟨_, _, rfl, n, e, q⟩
theorem all_ints4 {vs : List V} {p l : Int} {o r : Bool} (h : AtAll m H vs [.int p, .bool o, .bool r, .int l]) : vs = [.int p, .bl o, .bl r, .int l] := by
  cases h with
  | cons h1 q =>
    cases q with
    | cons h2 q =>
      cases q with
      | cons h3 q =>
        cases q with
        | cons h4 q =>
          cases q
          cases h1
          cases h2
          cases h3
          cases h4
          rfl
theorem row_of {v : V} {x : Row} (h : At m H v (rowD x)) : ∃ R, v = .ref R ∧ R ≠ m ∧ H R = some (.tup (rowV x)) := by
  obtain ⟨R, vs, rfl, n, e, q⟩ := at_tup h
  rw [all_ints4 q] at e
  exact ⟨R, rfl, n, e⟩
theorem row_at {R : Addr} {x : Row} (n : R ≠ m) (e : H R = some (.tup (rowV x))) : At m H (.ref R) (rowD x) := .tup n e (.cons (.int _) (.cons (.bl _) (.cons (.bl _) (.cons (.int _) .nil))))
theorem all_get : ∀ {vs : List V} {ds : List PyData} {i : Nat} {d : PyData}, AtAll m H vs ds → ds[i]? = some d → ∃ v, vs[i]? = some v ∧ At m H v d
  | _, _, _, _, .nil, e => by simp at e
  | _, _, 0, _, .cons h _, e => by
    simp at e
    subst e
    exact ⟨_, rfl, h⟩
  | _, _, i + 1, d, .cons _ q, e => by
    obtain ⟨v, h1, h2⟩ := all_get (i := i) (d := d) q (by simpa using e)
    exact ⟨v, by simpa using h1, h2⟩
theorem all_take : ∀ {vs : List V} {ds : List PyData} (n : Nat), AtAll m H vs ds → AtAll m H (vs.take n) (ds.take n)
  | _, _, 0, _ => .nil
  | _, _, _ + 1, .nil => .nil
  | _, _, n + 1, .cons h q => .cons h (all_take n q)
theorem all_drop : ∀ {vs : List V} {ds : List PyData} (n : Nat), AtAll m H vs ds → AtAll m H (vs.drop n) (ds.drop n)
  | _, _, 0, q => q
  | _, _, _ + 1, .nil => .nil
  | _, _, n + 1, .cons h q => all_drop n q
theorem all_app : ∀ {vs us : List V} {ds es : List PyData}, AtAll m H vs ds → AtAll m H us es → AtAll m H (vs ++ us) (ds ++ es)
  | _, _, _, _, .nil, q => q
  | _, _, _, _, .cons h t, q => .cons h (all_app t q)
/-- the sum of two tuples, whichever object it is -/
theorem cat_any {K : PySem.W.Frag} {b : Addr} {xs ys : List V} {o : HO} {Q : VK} (ha : H a = some (.tup xs)) (hb : H b = some (.tup ys)) (na : a ≠ m) (nb : b ≠ m) (hm : H m = some o) (hz : xs.length + ys.length ≤ sizeLine)
    (k : ∀ p H', p ≠ m → Same H H' → H' p = some (.tup (xs ++ ys)) → Q (.ref p) H') : rCatA K (.ref a) (.ref b) H Q := by
  refine ⟨a, b, xs, ys, rfl, rfl, SqT.of ha, SqT.of hb, hz, fun e => ?_, fun _ e => ?_, fun _ _ p hp => ?_⟩
  · subst e
    exact k b H nb (fun _ _ e => e) hb
  · subst e
    exact k a H na (fun _ _ e => e) (by rw [List.append_nil]; exact ha)
  · refine k p _ (fun z => by rw [z, hm] at hp; cases hp) (fun q u e => ?_) upd_same
    rw [upd_ne (ne_of_none e hp)]
    exact e
end
end M78

set_option Elab.async false
set_option maxRecDepth 100000
set_option maxHeartbeats 4000000
set_option linter.all false
namespace C81
open PySem L2 My M78
abbrev sRest : Stmt := top 17
abbrev sOpen : Stmt := top 18
abbrev sWork : Stmt := top 19
abbrev sTried : Stmt := top 20
theorem pe_gI {X : Cx} {x : Str} {z : Int} {t : Tok} {pos : Pos} (hg : Gl X x) (hm : X.mg x = some (.int z t)) (hd : (x == ("__debug__" : Str)) = false := by decide) : PE X (.Name x pos) (tC (.int z)) := pe_glob hg hm ⟨_, rfl⟩ hd
theorem pe_gR {X : Cx} {x : Str} {a : Addr} {pos : Pos} (hg : Gl X x) (hm : X.mg x = some (.ref a)) (hd : (x == ("__debug__" : Str)) = false := by decide) : PE X (.Name x pos) (tC (.ref a)) := pe_glob hg hm rfl hd
theorem same_new {H : Hp} {p : Addr} {o : HO} (h : H p = none) : Same H (upd H p o) := fun b u e => by
  rw [upd_ne (ne_of_none e h)]
  exact e
theorem Same.tr {H H1 H2 : Hp} (a : Same H H1) (b : Same H1 H2) : Same H H2 := fun x o e => b _ _ (a _ _ e)
/-- the module's constants -/
structure Tk (K : PySem.W.Frag) (mg : Str → Option Value) : Prop where
  l0 : ∃ t, mg "NO_LOCK" = some (.int 0 t)
  l1 : ∃ t, mg "SHARED" = some (.int 1 t)
  l2 : ∃ t, mg "RESERVED" = some (.int 2 t)
  l3 : ∃ t, mg "PENDING" = some (.int 3 t)
  l4 : ∃ t, mg "EXCLUSIVE" = some (.int 4 t)
  op : ∃ a, mg "OPENING" = some (.ref a) ∧ ∀ H, SqT K H a [.str (Str.ofString "begin"), .str (Str.ofString "immediate"), .str (Str.ofString "exclusive")]
  en : ∃ a, mg "ENDING" = some (.ref a) ∧ ∀ H, SqT K H a [.str (Str.ofString "commit"), .str (Str.ofString "rollback")]
  ot : ∃ a, mg "OTHERS" = some (.ref a) ∧ ∀ H, SqT K H a [.str (Str.ofString "read"), .str (Str.ofString "start"), .str (Str.ofString "stop"), .str (Str.ofString "write")]
  max : mg "max" = none
section
variable {P : Program} {w : World} {K : PySem.W.Frag} {mg : Str → Option Value} {base : Heap}
def spRest : Sp := fun vs H Q _ => ∃ b : Bool, vs = [.bl b] ∧ Q (.int (restL b)) H
theorem scRest : FnScope ["reads"] ["reads"] (defScope sRest) := ⟨rfl, rfl, rfl, by decide +kernel, rfl, by decide +kernel, by decide +kernel⟩
theorem pr_rest (D : Df K mg "resting" sRest ["reads"]) (G : Tk K mg) : Pr P w K mg base 1 "resting" ["reads"] spRest := by
  refine D.pr scRest (fun vs H Q E h => ?_) (fun f cdv A outer s H vs Q E hr h => ?_)
  · obtain ⟨b, rfl, _⟩ := h
    rfl
  · obtain ⟨b, rfl, q⟩ := h
    obtain ⟨_, g0⟩ := G.l0
    obtain ⟨_, g1⟩ := G.l1
    obtain ⟨_, g2⟩ := G.l2
    obtain ⟨_, g3⟩ := G.l3
    obtain ⟨_, g4⟩ := G.l4
    refine ⟨_, (pss_one (ps_ret (pe_ifExp (pt_val (pv 0)) (pe_gI rfl g1) (pe_gI rfl g0)))), ?_⟩
    refine ⟨_, rfl, _, rfl, ?_⟩
    cases b
    · exact iteF q
    · exact iteT q
def spOpen : Sp := fun vs H Q _ => ∃ (v : Wd) (l t : Int), vs = [.str (wS v), .int l, .int t] ∧ Q (oV (openL v l t)) H
theorem scOpen : FnScope ["step", "lock", "other"] ["step", "lock", "other"] (defScope sOpen) := ⟨rfl, rfl, rfl, by decide +kernel, rfl, by decide +kernel, by decide +kernel⟩
theorem pr_open (D : Df K mg "opened_lock" sOpen ["step", "lock", "other"]) (G : Tk K mg) : Pr P w K mg base 1 "opened_lock" ["step", "lock", "other"] spOpen := by
  refine D.pr scOpen (fun vs H Q E h => ?_) (fun f cdv A outer s H vs Q E hr h => ?_)
  · obtain ⟨v, l, t, rfl, _⟩ := h
    rfl
  · obtain ⟨v, l, t, rfl, q⟩ := h
    unfold openL at q
    obtain ⟨_, g0⟩ := G.l0
    obtain ⟨_, g1⟩ := G.l1
    obtain ⟨_, g2⟩ := G.l2
    obtain ⟨_, g3⟩ := G.l3
    obtain ⟨_, g4⟩ := G.l4
    refine ⟨_, (pss_cons (ps_if (pt_cmpR op_eq (pv 0) pe_str (nomark _))
        (pss_one (ps_ret (pv 1)))
        pss_nil)
      (pss_cons (ps_if (pt_cmpR op_eq (pv 0) pe_str (nomark _))
        (pss_one (ps_ret (pe_ifExp (pt_cmpR op_ge (pv 2) (pe_gI rfl g2) (nomark _)) pe_non (pe_gI rfl g2))))
        pss_nil)
      (pss_one (ps_ret (pe_ifExp (pt_cmpR op_ge (pv 2) (pe_gI rfl g1) (nomark _)) pe_non (pe_gI rfl g4)))))), ?_⟩
    refine ⟨_, rfl, rfl, _, rfl, ?_⟩
    refine ite2 (fun h1 => ?_) (fun h1 => ?_)
    · have e1 : v = .beg := of_decide_eq_true ((eqW v .beg).symm.trans h1)
      rw [if_pos e1] at q
      exact ⟨_, rfl, q⟩
    · have e1 : v ≠ .beg := fun z => h1 ((eqW v .beg).trans (decide_eq_true z))
      rw [if_neg e1] at q
      refine ⟨_, rfl, rfl, _, rfl, ?_⟩
      refine ite2 (fun h2 => ?_) (fun h2 => ?_)
      · have e2 : v = .imm := of_decide_eq_true ((eqW v .imm).symm.trans h2)
        rw [if_pos e2] at q
        refine ⟨_, rfl, _, _, rfl, rfl, _, rfl, ?_⟩
        refine ite2 (fun h3 => ?_) (fun h3 => ?_)
        · rw [if_pos (of_decide_eq_true h3)] at q
          exact q
        · rw [if_neg (fun z => h3 (decide_eq_true z))] at q
          exact q
      · have e2 : v ≠ .imm := fun z => h2 ((eqW v .imm).trans (decide_eq_true z))
        rw [if_neg e2] at q
        refine ⟨_, rfl, _, _, rfl, rfl, _, rfl, ?_⟩
        refine ite2 (fun h3 => ?_) (fun h3 => ?_)
        · rw [if_pos (of_decide_eq_true h3)] at q
          exact q
        · rw [if_neg (fun z => h3 (decide_eq_true z))] at q
          exact q
def spWork : Sp := fun vs H Q _ => ∃ (v : Wd) (a : Addr) (x : Row) (t : Int), vs = [.str (wS v), .ref a, .int t] ∧ H a = some (.tup (rowV x)) ∧ ∀ H', Same H H' → Q (oV (workL v x t)) H'
theorem scWork : FnScope ["step", "row", "other", "place", "opened", "reads", "lock"] ["step", "row", "other"] (defScope sWork) := ⟨rfl, rfl, rfl, by decide +kernel, rfl, by decide +kernel, by decide +kernel⟩
theorem pr_work (D : Df K mg "working_lock" sWork ["step", "row", "other"]) (G : Tk K mg) (PR : Pr P w K mg base 1 "resting" ["reads"] spRest) : Pr P w K mg base 2 "working_lock" ["step", "row", "other"] spWork := by
  refine D.pr scWork (fun vs H Q E h => ?_) (fun f cdv A outer s H vs Q E hr h => ?_)
  · obtain ⟨v, a, x, t, rfl, _⟩ := h
    rfl
  · obtain ⟨v, a, x, t, rfl, ha, k⟩ := h
    have nd := scWork.nd
    have hmax := G.max
    unfold workL at k
    obtain ⟨_, g0⟩ := G.l0
    obtain ⟨_, g1⟩ := G.l1
    obtain ⟨_, g2⟩ := G.l2
    obtain ⟨_, g3⟩ := G.l3
    obtain ⟨_, g4⟩ := G.l4
    refine ⟨_, (pss_cons (ps_asg (pv 1) (pg_tup rfl (pgs_cons (pg_name (i := 3) nd rfl (Or.inl rfl)) (pgs_cons (pg_name (i := 4) nd rfl (Or.inl rfl)) (pgs_cons (pg_name (i := 5) nd rfl (Or.inl rfl)) (pgs_cons (pg_name (i := 6) nd rfl (Or.inl rfl)) pgs_nil))))))
      (pss_cons (ps_if (pt_cmpR op_in_seq (pv 0) (pe_tup (pa_cons pe_str (pa_cons pe_str pa_nil))) (by rfl))
        (pss_cons (ps_if (PW.pt (pw_and (pt_cmpR op_eq (pv 6) (pe_gI rfl g0) (nomark _)) (pw_and1 (pt_cmpR op_ge (pv 2) (pe_gI rfl g3) (nomark _)))))
          (pss_one (ps_ret pe_non))
          pss_nil)
        (pss_cons (ps_if (pt_val (pv 4))
          (pss_one (ps_ret (pe_callB (call_max2 rfl) (by rfl) hmax (by decide +kernel) (pa_cons (pv 6) (pa_cons (pe_gI rfl g1) pa_nil)))))
          pss_nil)
        (pss_one (ps_ret (pe_callP PR hr (by rfl) (pa_cons (pe_or (pv 5) (pe_one (pe_cmpR op_eq (pv 0) pe_str (nomark _)))) pa_nil))))))
        pss_nil)
      (pss_cons (ps_if (PW.pt (pw_and (pt_cmpR op_lt (pv 6) (pe_gI rfl g2) (nomark _)) (pw_and1 (pt_cmpR op_ge (pv 2) (pe_gI rfl g2) (nomark _)))))
        (pss_one (ps_ret pe_non))
        pss_nil)
      (pss_cons (ps_if (pt_val (pv 4))
        (pss_one (ps_ret (pe_callB (call_max2 rfl) (by rfl) hmax (by decide +kernel) (pa_cons (pv 6) (pa_cons (pe_gI rfl g2) pa_nil)))))
        pss_nil)
      (pss_one (ps_ret (pe_ifExp (pt_cmpR op_ge (pv 2) (pe_gI rfl g1) (nomark _)) pe_non (pe_callP PR hr (by rfl) (pa_cons (pv 5) pa_nil))))))))), ?_⟩
    refine ⟨_, rfl, _, _, rfl, SqT.of ha, rfl, _, _, rfl, _, _, rfl, _, _, rfl, _, _, rfl, rfl, ?_⟩
    refine ⟨_, rfl, (by show 2 ≤ sizeLine; decide), fun tp htp => ?_⟩
    have q := k _ (same_new (o := .tup [.str (Str.ofString "read"), .str (Str.ofString "start")]) htp)
    refine ⟨_, _, rfl, .inr (SqT.of upd_same), rfl, rfl, _, rfl, ?_⟩
    refine ite2 (fun h1 => ?_) (fun h1 => ?_)
    · have e1 : isRs v = true := (in_rs v).symm.trans h1
      rw [if_pos e1] at q
      refine seq_if_tv (decide (x.l = 0 ∧ 3 ≤ t)) (fun K' kk => ?_) (fun hb => ?_) (fun hb => ?_)
      · refine ⟨_, rfl, rfl, _, rfl, ?_⟩
        refine ite2 (fun h2 => ?_) (fun h2 => ?_)
        · have e2 : x.l = 0 := V.int.inj (of_decide_eq_true h2)
          refine ⟨_, rfl, _, _, rfl, rfl, _, rfl, ?_⟩
          simpa [e2] using kk
        · have e2 : x.l ≠ 0 := fun z => h2 (decide_eq_true (congrArg V.int z))
          simpa [e2] using kk
      · rw [if_pos (of_decide_eq_true hb)] at q
        exact q
      · rw [if_neg (of_decide_eq_false hb)] at q
        refine ⟨_, rfl, _, rfl, ?_⟩
        refine ite2 (fun ho => ?_) (fun ho => ?_)
        · rw [if_pos ho] at q
          refine ⟨_, rfl, _, _, rfl, ?_⟩
          rw [max2]
          exact q
        · rw [if_neg ho] at q
          refine ⟨_, rfl, _, rfl, ?_⟩
          cases hx : x.r
          · refine iteF ⟨_, rfl, rfl, _, rfl, ?_⟩
            rw [hx] at q
            have e3 := eqW v .sta
            rw [Bool.false_or, ← e3] at q
            exact q
          · refine iteT ⟨_, rfl, ?_⟩
            rw [hx] at q
            exact q
    · have e1 : ¬ isRs v = true := fun z => h1 ((in_rs v).trans z)
      rw [if_neg e1] at q
      dsimp only [tNext]
      refine seq_if_tv (decide (x.l < 2 ∧ 2 ≤ t)) (fun K' kk => ?_) (fun hb => ?_) (fun hb => ?_)
      · refine ⟨_, rfl, _, _, rfl, rfl, _, rfl, ?_⟩
        refine ite2 (fun h2 => ?_) (fun h2 => ?_)
        · have e2 : x.l < 2 := of_decide_eq_true h2
          refine ⟨_, rfl, _, _, rfl, rfl, _, rfl, ?_⟩
          simpa [e2] using kk
        · have e2 : ¬ x.l < 2 := fun z => h2 (decide_eq_true z)
          simpa [e2] using kk
      · rw [if_pos (of_decide_eq_true hb)] at q
        exact q
      · rw [if_neg (of_decide_eq_false hb)] at q
        refine ⟨_, rfl, _, rfl, ?_⟩
        refine ite2 (fun ho => ?_) (fun ho => ?_)
        · rw [if_pos ho] at q
          refine ⟨_, rfl, _, _, rfl, ?_⟩
          rw [max2]
          exact q
        · rw [if_neg ho] at q
          refine ⟨_, rfl, _, _, rfl, rfl, _, rfl, ?_⟩
          refine ite2 (fun h3 => ?_) (fun h3 => ?_)
          · rw [if_pos (of_decide_eq_true h3)] at q
            exact q
          · rw [if_neg (fun z => h3 (decide_eq_true z))] at q
            exact ⟨_, rfl, _, rfl, q⟩
end
end C81

set_option Elab.async false
set_option maxRecDepth 100000
set_option maxHeartbeats 4000000
set_option linter.all false
namespace C81
open PySem L2 My M78
section
variable {P : Program} {w : World} {K : PySem.W.Frag} {mg : Str → Option Value} {base : Heap}
def spTried : Sp := fun vs H Q _ => ∃ (v : Wd) (a : Addr) (x : Row) (t : Int), vs = [.str (wS v), .ref a, .int t] ∧ H a = some (.tup (rowV x)) ∧
  ∀ (p q : Addr) (H' : Hp), H p = none → Same H H' → H' p = some (.tup [.ref q, .bl (triedM v x t).2]) → H' q = some (.tup (rowV (triedM v x t).1)) → (q = a ∨ H q = none) → Q (.ref p) H'
theorem scTried : FnScope ["step", "row", "other", "place", "opened", "reads", "lock", "after"] ["step", "row", "other"] (defScope sTried) := ⟨rfl, rfl, rfl, by decide +kernel, rfl, by decide +kernel, by decide +kernel⟩
theorem pr_tried (D : Df K mg "tried" sTried ["step", "row", "other"]) (G : Tk K mg) (PR : Pr P w K mg base 1 "resting" ["reads"] spRest) (PO : Pr P w K mg base 1 "opened_lock" ["step", "lock", "other"] spOpen) (PWk : Pr P w K mg base 2 "working_lock" ["step", "row", "other"] spWork) :
    Pr P w K mg base 3 "tried" ["step", "row", "other"] spTried := by
  refine D.pr scTried (fun vs H Q E h => ?_) (fun f cdv A outer s H vs Q E hr h => ?_)
  · obtain ⟨v, a, x, t, rfl, _⟩ := h
    rfl
  · obtain ⟨v, a, x, t, rfl, ha, k⟩ := h
    have nd := scTried.nd
    have hmax := G.max
    have hr1 := hr.mono (show 1 ≤ 2 by decide)
    obtain ⟨aO, gOp, sqO⟩ := G.op
    obtain ⟨_, g0⟩ := G.l0
    obtain ⟨_, g1⟩ := G.l1
    obtain ⟨_, g2⟩ := G.l2
    obtain ⟨_, g3⟩ := G.l3
    obtain ⟨_, g4⟩ := G.l4
    refine ⟨_, (pss_cons (ps_asg (pv 1) (pg_tup rfl (pgs_cons (pg_name (i := 3) nd rfl (Or.inl rfl)) (pgs_cons (pg_name (i := 4) nd rfl (Or.inl rfl)) (pgs_cons (pg_name (i := 5) nd rfl (Or.inl rfl)) (pgs_cons (pg_name (i := 6) nd rfl (Or.inl rfl)) pgs_nil))))))
      (pss_cons (ps_asg (pv 6) (pg_name (i := 7) nd rfl (Or.inl rfl)))
      (Evl.pss_cut (ps_if (pt_cmpR op_in_seq (pv 0) (pe_gR rfl gOp) (by rfl))
        (pss_cons (ps_asg (pe_callP PO hr1 (by rfl) (pa_cons (pv 0) (pa_cons (pv 6) (pa_cons (pv 2) pa_nil)))) (pg_name (i := 7) nd rfl (Or.inl rfl)))
        (pss_one (ps_asg pe_bl (pg_name (i := 4) nd rfl (Or.inl rfl)))))
        (pss_one (ps_if (pt_cmpR op_in_seq (pv 0) (pe_tup (pa_cons pe_str (pa_cons pe_str (pa_cons pe_str pa_nil)))) (by rfl))
          (pss_cons (ps_asg (pe_callP PWk hr (by rfl) (pa_cons (pv 0) (pa_cons (pv 1) (pa_cons (pv 2) pa_nil)))) (pg_name (i := 7) nd rfl (Or.inl rfl)))
          (pss_one (ps_asg (pe_or (pv 5) (pe_one (pe_cmpR op_eq (pv 0) pe_str (nomark _)))) (pg_name (i := 5) nd rfl (Or.inl rfl)))))
          (pss_one (ps_if (pt_cmpR op_eq (pv 0) pe_str (nomark _))
            (pss_cons (ps_asg pe_bl (pg_name (i := 5) nd rfl (Or.inl rfl)))
            (pss_one (ps_asg (pe_ifExp (pt_val (pv 4)) (pv 6) (pe_gI rfl g0)) (pg_name (i := 7) nd rfl (Or.inl rfl)))))
            (pss_one (ps_if (PW.pt (pw_and (pt_cmpR op_eq (pv 0) pe_str (nomark _)) (pw_and (pt_cmpR op_ge (pv 6) (pe_gI rfl g2) (nomark _)) (pw_and1 (pt_cmpR op_ge (pv 2) (pe_gI rfl g1) (nomark _))))))
              (pss_one (ps_ret (pe_tup (pa_cons (pe_tup (pa_cons (pv 3) (pa_cons (pv 4) (pa_cons (pv 5) (pa_cons (pe_callB (call_max2 rfl) (by rfl) hmax (by decide +kernel) (pa_cons (pv 6) (pa_cons (pe_gI rfl g3) pa_nil))) pa_nil))))) (pa_cons pe_bl pa_nil)))))
              (pss_cons (ps_asg pe_bl (pg_name (i := 4) nd rfl (Or.inl rfl)))
              (pss_one (ps_asg (pe_callP PR hr1 (by rfl) (pa_cons (pv 5) pa_nil)) (pg_name (i := 7) nd rfl (Or.inl rfl))))))))))))
      (pss_cons (ps_if (pt_cmpR op_isN (pv 7) pe_non (nomark _))
        (pss_one (ps_ret (pe_tup (pa_cons (pv 1) (pa_cons pe_bl pa_nil)))))
        pss_nil)
      (pss_one (ps_ret (pe_tup (pa_cons (pe_tup (pa_cons (pe_op op_add (pv 3) pe_int) (pa_cons (pv 4) (pa_cons (pv 5) (pa_cons (pv 7) pa_nil))))) (pa_cons pe_bl pa_nil))))))))), ?_⟩
    refine ⟨_, rfl, _, _, rfl, SqT.of ha, rfl, _, _, rfl, _, _, rfl, _, _, rfl, _, _, rfl, rfl, ?_⟩
    refine ⟨_, rfl, ?_⟩
    refine ⟨fun σ' H1 => Same H H1 ∧ ∃ (o r : Bool) (ol : Option Int), triedM v x t = endL x o r ol ∧ σ' = [some (.str (wS v)), some (.ref a), some (.int t), some (.int x.p), some (.bl o), some (.bl r), some (.int x.l), some (oV ol)], ?_, ?_⟩
    · refine ⟨_, rfl, _, _, rfl, .inr (sqO _), rfl, rfl, _, rfl, ?_⟩
      refine ite2 (fun h1 => ?_) (fun h1 => ?_)
      · have e1 : isOp v = true := (in_op v).symm.trans h1
        refine ⟨_, rfl, _, rfl, _, rfl, v, x.l, t, rfl, ?_⟩
        exact ⟨fun _ _ e => e, true, x.r, _, by unfold triedM; rw [if_pos e1], rfl⟩
      · have e1 : ¬ isOp v = true := fun z => h1 ((in_op v).trans z)
        refine ⟨_, rfl, (by show 3 ≤ sizeLine; decide), fun tp htp => ?_⟩
        have s1 := same_new (o := .tup [.str (Str.ofString "read"), .str (Str.ofString "start"), .str (Str.ofString "write")]) htp
        refine ⟨_, _, rfl, .inr (SqT.of upd_same), rfl, rfl, _, rfl, ?_⟩
        refine ite2 (fun h2 => ?_) (fun h2 => ?_)
        · have e2 : isRsw v = true := (in_rsw v).symm.trans h2
          refine ⟨_, rfl, _, rfl, _, rfl, v, a, x, t, rfl, s1 _ _ ha, fun H2 s2 => ?_⟩
          refine ⟨_, rfl, _, rfl, ?_⟩
          have e3 : triedM v x t = endL x x.o (x.r || decide (v = .sta)) (workL v x t) := by
            unfold triedM
            rw [if_neg e1, if_pos e2]
          cases hx : x.r
          · refine iteF ⟨_, rfl, rfl, ?_⟩
            rw [hx, Bool.false_or, ← eqW v .sta] at e3
            exact ⟨Same.tr s1 s2, x.o, _, _, e3, rfl⟩
          · rw [hx, Bool.true_or] at e3
            exact iteT ⟨Same.tr s1 s2, x.o, true, _, e3, rfl⟩
        · have e2 : ¬ isRsw v = true := fun z => h2 ((in_rsw v).trans z)
          refine ⟨_, rfl, rfl, _, rfl, ?_⟩
          refine ite2 (fun h3 => ?_) (fun h3 => ?_)
          · have e3 : v = .sto := of_decide_eq_true ((eqW v .sto).symm.trans h3)
            have e4 : triedM v x t = endL x x.o false (some (if x.o = true then x.l else 0)) := by
              unfold triedM
              rw [if_neg e1, if_neg e2, if_pos e3]
            refine ⟨_, rfl, _, rfl, ?_⟩
            refine ite2 (fun ho => ?_) (fun ho => ?_)
            · rw [if_pos ho] at e4
              exact ⟨_, rfl, s1, x.o, false, _, e4, rfl⟩
            · rw [if_neg ho] at e4
              exact ⟨s1, x.o, false, _, e4, rfl⟩
          · have e3 : v ≠ .sto := fun z => h3 ((eqW v .sto).trans (decide_eq_true z))
            refine if_tv (decide (v = .com ∧ 2 ≤ x.l ∧ 1 ≤ t)) (fun K' kk => ?_) (fun hb => ?_) (fun hb => ?_)
            · refine ⟨_, rfl, rfl, _, rfl, ?_⟩
              refine ite2 (fun h4 => ?_) (fun h4 => ?_)
              · have e4 : v = .com := of_decide_eq_true ((eqW v .com).symm.trans h4)
                refine ⟨_, rfl, _, _, rfl, rfl, _, rfl, ?_⟩
                refine ite2 (fun h5 => ?_) (fun h5 => ?_)
                · have e5 : 2 ≤ x.l := of_decide_eq_true h5
                  refine ⟨_, rfl, _, _, rfl, rfl, _, rfl, ?_⟩
                  simpa [e4, e5] using kk
                · have e5 : ¬ 2 ≤ x.l := fun z => h5 (decide_eq_true z)
                  simpa [e4, e5] using kk
              · have e4 : v ≠ .com := fun z => h4 ((eqW v .com).trans (decide_eq_true z))
                simpa [e4] using kk
            · have e4 : triedM v x t = (⟨x.p, x.o, x.r, max x.l 3⟩, true) := by
                unfold triedM
                rw [if_neg e1, if_neg e2, if_neg e3, if_pos (of_decide_eq_true hb)]
              rw [e4] at k
              refine ⟨_, rfl, _, rfl, _, rfl, _, rfl, _, _, rfl, (by show 4 ≤ sizeLine; decide), fun q hq => ⟨(by show 2 ≤ sizeLine; decide), fun p hp => ?_⟩⟩
              rw [max2] at hp ⊢
              have sq := same_new (o := .tup [.int x.p, .bl x.o, .bl x.r, .int (max x.l 3)]) hq
              have npq : q ≠ p := fun z => by
                rw [← z, upd_same] at hp
                cases hp
              refine k p q _ (Same.free (Same.tr s1 sq) hp) (Same.tr (Same.tr s1 sq) (same_new hp)) upd_same (Eq.trans (upd_ne npq) upd_same) (.inr (Same.free s1 hq))
            · have e4 : triedM v x t = endL x false x.r (some (restL x.r)) := by
                unfold triedM
                rw [if_neg e1, if_neg e2, if_neg e3, if_neg (of_decide_eq_false hb)]
              exact ⟨_, rfl, _, rfl, s1, false, x.r, _, e4, rfl⟩
    · rintro σ' H1 ⟨s1, o, r, ol, e, rfl⟩
      rw [e] at k
      refine ⟨_, rfl, rfl, _, rfl, ?_⟩
      cases ol with
      | none =>
        refine iteT ⟨_, rfl, (by show 2 ≤ sizeLine; decide), fun p hp => ?_⟩
        have npa : a ≠ p := ne_of_none (s1 _ _ ha) hp
        exact k p a _ (Same.free s1 hp) (Same.tr s1 (same_new hp)) upd_same (Eq.trans (upd_ne npa) (s1 _ _ ha)) (.inl rfl)
      | some l =>
        refine iteF ⟨_, rfl, _, _, rfl, rfl, _, rfl, _, rfl, _, rfl, (by show 4 ≤ sizeLine; decide), fun q hq => ⟨(by show 2 ≤ sizeLine; decide), fun p hp => ?_⟩⟩
        have sq := same_new (o := .tup (rowV ⟨x.p + 1, o, r, l⟩)) hq
        have npq : q ≠ p := fun z => by
          rw [← z, upd_same] at hp
          cases hp
        exact k p q _ (Same.free (Same.tr s1 sq) hp) (Same.tr (Same.tr s1 sq) (same_new hp)) upd_same (Eq.trans (upd_ne npq) upd_same) (.inr (Same.free s1 hq))
end
end C81

set_option Elab.async false
set_option maxRecDepth 100000
set_option maxHeartbeats 4000000
set_option linter.all false
namespace C81
open PySem L2 My M78
abbrev sMoved : Stmt := top 21
section
variable {P : Program} {w : World} {K : PySem.W.Frag} {mg : Str → Option Value} {base : Heap}
abbrev nMoved : List Str := ["scripts", "state", "at", "row", "other", "refused", "k"]
theorem scMoved : FnScope nMoved ["scripts", "state", "at"] (defScope sMoved) := ⟨rfl, rfl, rfl, by decide +kernel, rfl, by decide +kernel, by decide +kernel⟩
theorem othL_succ (xs : List Row) (j n : Nat) : othL xs j (n + 1) = othL xs j n ++ (if n = j then [] else match xs[n]? with | some x => [x.l] | none => []) := rfl
/-- one step of script number j -/
def spMoved : Sp := fun vs H Q _ => ∃ (m A B : Addr) (o : HO) (ss : List (List Wd)) (xs : List Row) (j p : Nat) (sc : List Wd) (x : Row) (v : Wd), H m = some o ∧ vs = [.ref A, .ref B, .int j] ∧ At m H (.ref A) (scD ss) ∧ At m H (.ref B) (stD xs) ∧
  xs.length ≤ 1000 ∧ ss[j]? = some sc ∧ xs[j]? = some x ∧ x.p = (p : Int) ∧ sc[p]? = some v ∧
  ∀ (q : Addr) (H' : Hp), H q = none → Same H H' → At m H' (.ref q) (.tuple [stD (xs.set j (triedM v x (topM xs j)).1), .bool (triedM v x (topM xs j)).2]) → Q (.ref q) H'
theorem pr_moved (D : Df K mg "moved" sMoved ["scripts", "state", "at"]) (T : Tx mg) (G : Tk K mg) (PTr : Pr P w K mg base 3 "tried" ["step", "row", "other"] spTried) : Pr P w K mg base 4 "moved" ["scripts", "state", "at"] spMoved := by
  refine D.pr scMoved (fun vs H Q E h => ?_) (fun f cdv A outer s H vs Q E hr h => ?_)
  · obtain ⟨m, A, B, o, ss, xs, j, p, sc, x, v, hm, rfl, _⟩ := h
    rfl
  · obtain ⟨m, A, B, o, ss, xs, j, p, sc, x, v, hm, rfl, hA, hB, hlen, hsc, hx, hp, hv, k⟩ := h
    have nd := scMoved.nd
    obtain ⟨_, g0⟩ := G.l0
    obtain ⟨_, g1⟩ := G.l1
    obtain ⟨_, g2⟩ := G.l2
    obtain ⟨_, g3⟩ := G.l3
    obtain ⟨_, g4⟩ := G.l4
    refine ⟨_, (pss_cons (ps_asg (pe_callBK (cr_maxD rfl hr.units) (by rfl) G.max (by decide +kernel) (pa_cons (pe_lc (own := [("k", 6), ("row", 3)]) (g := gTup K 2 (gCons (gName 6) (gCons (gName 3) gNil))) (te := tOp (rIxT K) (tVar 3) (tC (.int 3))) (by rfl) nd (pi_enumT (by rfl) T.enumerate (pa_cons (pv 1) pa_nil))
  (blkOk_by (own := [("k", 6), ("row", 3)]) (N := nMoved) (sc := defScope sMoved) (by decide +kernel))
  (fun _ _ _ _ _ => pg_tup rfl (pgs_cons (pg_name (i := 6) nd rfl (Or.inl rfl) (Or.inr rfl)) (pgs_cons (pg_name (i := 3) nd rfl (Or.inl rfl) (Or.inr rfl)) pgs_nil))) (fun _ _ _ _ _ => pts_one (pt_cmpR op_ne (pv 6) (pv 2) (nomark _)))
  (fun _ _ _ _ _ => (pe_ix ix_tup (pv 3) pe_int (fun _ _ => rfl)))) pa_nil) (pk_cons (pe_gI rfl g0) pk_nil)) (pg_name (i := 4) nd rfl (Or.inl rfl)))
      (pss_cons (ps_asg (pe_callP PTr hr (by rfl) (pa_cons (pe_ix ix_tup (pe_ix ix_tup (pv 0) (pv 2) (fun _ _ => rfl)) (pe_ix ix_tup (pe_ix ix_tup (pv 1) (pv 2) (fun _ _ => rfl)) pe_int (fun _ _ => rfl)) (fun _ _ => rfl)) (pa_cons (pe_ix ix_tup (pv 1) (pv 2) (fun _ _ => rfl)) (pa_cons (pv 4) pa_nil)))) (pg_tup rfl (pgs_cons (pg_name (i := 3) nd rfl (Or.inl rfl)) (pgs_cons (pg_name (i := 5) nd rfl (Or.inl rfl)) pgs_nil))))
      (pss_one (ps_ret (pe_tup (pa_cons (pe_op op_catA (pe_op op_catA (pe_slice sl_tupA (pv 1) po_none (po_some (pv 2))) (pe_tup (pa_cons (pv 3) pa_nil))) (pe_slice sl_tupA (pv 1) (po_some (pe_op op_add (pv 2) pe_int)) po_none)) (pa_cons (pv 5) pa_nil))))))), ?_⟩
    obtain ⟨_, ua, ea, nA, hA1, aA⟩ := at_tup hA
    cases ea
    obtain ⟨_, ub, eb, nB, hB1, aB⟩ := at_tup hB
    cases eb
    have lub : ub.length = xs.length := by
      rw [aB.length, List.length_map]
    have hj : j < xs.length := (List.getElem?_eq_some_iff.mp hx).1
    -- other = max(..)
    refine ⟨_, rfl, _, _, rfl, SqT.of hB1, fun Dl hD => ?_⟩
    refine lc_it (walk_enumT (xs := ub)) (fun i H2 => Same H H2 ∧ H2 Dl = some (.lst ((othL xs j i).map V.int))) ?_ ?_ ?_ ?_
    · exact ⟨same_new hD, upd_same⟩
    · exact fun i H2 _ q => SqT.of (q.1 _ _ hB1)
    · rintro i y H2 H3 hi ⟨sm, hl⟩ ⟨T2, i', vr, rfl, hT2, rfl, ei, er⟩
      obtain rfl : V.int (i : Nat) = i' := Option.some.inj ei
      have hix : i < xs.length := by omega
      obtain ⟨dr, e1, ar⟩ := aB.get er
      rw [List.getElem?_map, List.getElem?_eq_getElem hix] at e1
      cases e1
      obtain ⟨R, rfl, nR, hR⟩ := row_of ar
      have sT : Same H (upd H2 T2 (.tup [.int (i : Nat), .ref R])) := Same.tr sm (same_new hT2)
      have nDT : Dl ≠ T2 := ne_of_none hl hT2
      have hl3 : (upd H2 T2 (.tup [.int (i : Nat), .ref R])) Dl = some (.lst ((othL xs j i).map V.int)) := by
        rw [upd_ne nDT]
        exact hl
      refine ⟨_, _, rfl, SqT.of upd_same, rfl, _, _, rfl, _, _, rfl, rfl, rfl, ?_⟩
      refine ⟨_, rfl, _, rfl, rfl, _, rfl, ?_⟩
      by_cases hij : i = j
      · rw [decide_eq_true (show V.int ((i : Nat) : Int) = V.int ((j : Nat) : Int) by rw [hij])]
        refine iteF ⟨sT, ?_⟩
        rw [hl3, othL_succ, if_pos hij, List.append_nil]
      · rw [decide_eq_false (show ¬ V.int ((i : Nat) : Int) = V.int ((j : Nat) : Int) from fun z => hij (by have := V.int.inj z; omega))]
        refine iteT ⟨_, rfl, R, _, _, _, rfl, rfl, SqT.of (sT _ _ hR), rfl, _, hl3, ?_, ?_, ?_⟩
        · rw [List.length_map]
          have := othL_len xs j i
          exact small6 (by omega)
        · intro b u e
          rw [upd_ne (ne_of_none e hD)]
          exact sT _ _ e
        · rw [upd_same, othL_succ, if_neg hij, List.getElem?_eq_getElem hix, List.map_append]
          rfl
    · rintro H2 ⟨s2, hl⟩
      refine ⟨_, _, _, rfl, rfl, SqL.of hl, ?_⟩
      rw [lub]
      -- row, refused = tried(..)
      obtain ⟨vsc, es1, asc⟩ := all_get (i := j) (d := .tuple (sc.map fun v => .str (wS v))) aA (by rw [List.getElem?_map, hsc]; rfl)
      obtain ⟨aS, us, rfl, nS, hS, aS2⟩ := at_tup asc
      obtain ⟨vv, ev1, av⟩ := all_get (i := p) (d := .str (wS v)) aS2 (by rw [List.getElem?_map, hv]; rfl)
      cases av
      obtain ⟨vR, er1, aR⟩ := all_get (i := j) (d := rowD x) aB (by rw [List.getElem?_map, hx]; rfl)
      obtain ⟨R, rfl, nR, hR⟩ := row_of aR
      have hp2 : rowV x = [.int (p : Int), .bl x.o, .bl x.r, .int x.l] := by
        unfold rowV
        rw [hp]
      have hR2 : H2 R = some (.tup [.int (p : Int), .bl x.o, .bl x.r, .int x.l]) := by
        rw [← hp2]
        exact s2 _ _ hR
      refine ⟨_, rfl, _, rfl, _, _, _, _, rfl, rfl, SqT.of (s2 _ _ hA1), atI_nat es1, ?_⟩
      refine ⟨_, rfl, _, rfl, _, _, _, _, rfl, rfl, SqT.of (s2 _ _ hB1), atI_nat er1, ?_⟩
      refine ⟨_, _, _, _, rfl, rfl, SqT.of hR2, rfl, ?_⟩
      refine ⟨_, _, _, _, rfl, rfl, SqT.of (s2 _ _ hS), atI_nat ev1, ?_⟩
      refine ⟨_, rfl, _, rfl, _, _, _, _, rfl, rfl, SqT.of (s2 _ _ hB1), atI_nat er1, ?_⟩
      refine ⟨_, rfl, v, R, x, _, rfl, s2 _ _ hR, fun pt q H3 npt s3 hpt hq hqo => ?_⟩
      refine ⟨_, _, rfl, SqT.of hpt, rfl, _, _, rfl, _, _, rfl, rfl, ?_⟩
      have sm3 : Same H H3 := Same.tr s2 s3
      have nq : q ≠ m := by
        rcases hqo with rfl | h
        · exact nR
        · exact fun z => by
            rw [z, s2 _ _ hm] at h
            cases h
      -- state[:at]
      have hB3 := sm3 _ _ hB1
      have w1 : ¬ (HT.sIx ub.length 0 none = 0 ∧ HT.sIx ub.length ub.length (some (j : Int)) = ub.length) := fun z => by
        have := z.2
        rw [HT.sIx_nat] at this
        omega
      refine ⟨_, rfl, _, rfl, _, rfl, _, _, rfl, SqT.of hB3, fun z => absurd z w1, fun _ p1 hp1 => ?_⟩
      have c1 : cutV ub none (some (j : Int)) = ub.take j := by
        show (ub.drop 0).take (HT.sIx ub.length ub.length (some (j : Int)) - 0) = _
        rw [HT.sIx_nat, List.drop_zero, Nat.sub_zero, Nat.min_eq_left (by omega)]
      rw [c1]
      have s4 := Same.tr sm3 (same_new (o := .tup (ub.take j)) hp1)
      refine ⟨_, rfl, (by show 1 ≤ sizeLine; decide), fun p2 hp2 => ?_⟩
      have s5 := same_new (o := .tup [.ref q]) hp2
      have hm4 := s4 _ _ hm
      have n1 : p1 ≠ m := fun z => by
        rw [z, sm3 _ _ hm] at hp1
        cases hp1
      have n2 : p2 ≠ m := fun z => by
        rw [z, hm4] at hp2
        cases hp2
      show rCatA K _ _ _ _
      refine cat_any (m := m) (a := p1) (b := p2) (s5 _ _ upd_same) upd_same n1 n2 (s5 _ _ hm4) (by rw [List.length_take]; show _ + 1 ≤ _; exact Nat.le_of_lt (small6 (by omega))) (fun p3 H5 n3 s6 h3 => ?_)
      have sm6 : Same H H5 := Same.tr (Same.tr s4 s5) s6
      have hB5 := sm6 _ _ hB1
      have w2 : ¬ (HT.sIx ub.length 0 (some ((j + 1 : Nat) : Int)) = 0 ∧ HT.sIx ub.length ub.length none = ub.length) := fun z => by
        have := z.1
        rw [HT.sIx_nat] at this
        omega
      refine ⟨_, rfl, _, rfl, _, _, rfl, rfl, _, rfl, _, _, rfl, SqT.of hB5, fun z => absurd z w2, fun _ p4 hp4 => ?_⟩
      have c2 : cutV ub (some ((j : Int) + 1)) none = ub.drop (j + 1) := by
        show (ub.drop (HT.sIx ub.length 0 (some ((j + 1 : Nat) : Int)))).take (ub.length - HT.sIx ub.length 0 (some ((j + 1 : Nat) : Int))) = _
        rw [HT.sIx_nat, Nat.min_eq_left (by omega), List.take_of_length_le (by rw [List.length_drop]; omega)]
      rw [c2]
      have s7 := same_new (o := .tup (ub.drop (j + 1))) hp4
      have n4 : p4 ≠ m := fun z => by
        rw [z, sm6 _ _ hm] at hp4
        cases hp4
      show rCatA K _ _ _ _
      refine cat_any (m := m) (a := p3) (b := p4) (s7 _ _ h3) upd_same n3 n4 (s7 _ _ (sm6 _ _ hm)) (by rw [List.length_append, List.length_take, List.length_drop]; show _ + 1 + _ ≤ _; exact Nat.le_of_lt (small6 (by omega))) (fun p5 H6 n5 s8 h5 => ?_)
      have sm8 : Same H H6 := Same.tr (Same.tr sm6 s7) s8
      refine ⟨_, rfl, (by show 2 ≤ sizeLine; decide), fun p6 hp6 => ?_⟩
      have s9 := same_new (o := .tup [.ref p5, .bl (triedM v x (topM xs j)).2]) hp6
      have smAll : Same H _ := Same.tr sm8 s9
      have n6 : p6 ≠ m := fun z => by
        rw [z, sm8 _ _ hm] at hp6
        cases hp6
      refine k p6 _ (Same.free sm8 hp6) smAll (.tup n6 upd_same (.cons ?_ (.cons (.bl _) .nil)))
      refine .tup n5 (s9 _ _ h5) ?_
      have hq6 : H6 q = some (.tup (rowV (triedM v x (topM xs j)).1)) := s8 _ _ (s7 _ _ (s6 _ _ (s5 _ _ (same_new hp1 _ _ hq))))
      have aB6 := aB.mono (Same.but (m := m) smAll)
      have e9 : (xs.set j (triedM v x (topM xs j)).1).map rowD = ((xs.map rowD).take j ++ [rowD (triedM v x (topM xs j)).1]) ++ (xs.map rowD).drop (j + 1) := by
        rw [List.set_eq_take_append_cons_drop, if_pos hj, List.map_append, List.map_cons, List.map_take, List.map_drop, List.append_assoc]
        rfl
      rw [e9]
      exact all_app (all_app (all_take j aB6) (.cons (row_at nq (s9 _ _ hq6)) .nil)) (all_drop (j + 1) aB6)
end
end C81

set_option Elab.async false
set_option maxRecDepth 100000
set_option maxHeartbeats 4000000
set_option linter.all false
namespace C81
open PySem L2 My M78
abbrev sWait : Stmt := top 22
def waitL (ss : List (List Wd)) (xs : List Row) : Nat → List Nat
  | 0 => []
  | n + 1 => waitL ss xs n ++ (match ss[n]?, xs[n]? with | some s, some x => (if x.p < (s.length : Int) then [n] else []) | _, _ => [])
theorem waitL_len (ss : List (List Wd)) (xs : List Row) : ∀ n, (waitL ss xs n).length ≤ n
  | 0 => Nat.le_refl _
  | n + 1 => by
    have := waitL_len ss xs n
    unfold waitL
    rw [List.length_append]
    split
    · split <;> simp <;> omega
    · simp
      omega
section
variable {P : Program} {w : World} {K : PySem.W.Frag} {mg : Str → Option Value} {base : Heap}
abbrev nWait : List Str := ["scripts", "state", "at", "row"]
theorem scWait : FnScope nWait ["scripts", "state"] (defScope sWait) := ⟨rfl, rfl, rfl, by decide +kernel, rfl, by decide +kernel, by decide +kernel⟩
/-- the scripts that have steps left -/
def spWait : Sp := fun vs H Q _ => ∃ (m A B : Addr) (ss : List (List Wd)) (xs : List Row), vs = [.ref A, .ref B] ∧ At m H (.ref A) (scD ss) ∧ At m H (.ref B) (stD xs) ∧
  ss.length = xs.length ∧ xs.length ≤ 1000 ∧
  ∀ (q : Addr) (H' : Hp), H q = none → Same H H' → H' q = some (.lst ((waitL ss xs xs.length).map fun k : Nat => V.int (k : Int))) → Q (.ref q) H'
theorem pr_wait (D : Df K mg "waiting_ones" sWait ["scripts", "state"]) (T : Tx mg) : Pr P w K mg base 4 "waiting_ones" ["scripts", "state"] spWait := by
  refine D.pr scWait (fun vs H Q E h => ?_) (fun f cdv A outer s H vs Q E hr h => ?_)
  · obtain ⟨m, A, B, ss, xs, rfl, _⟩ := h
    rfl
  · obtain ⟨m, A, B, ss, xs, rfl, hA, hB, hle, hlen, k⟩ := h
    have nd := scWait.nd
    refine ⟨_, (pss_one (ps_ret (pe_lc (own := [("at", 2), ("row", 3)]) (g := gTup K 2 (gCons (gName 2) (gCons (gName 3) gNil))) (tt := tTest (tOp (rI0 fun i j => .bl (decide (i < j))) (tOp (rIxT K) (tVar 3) (tC (.int 0))) (tCB (fun xs H Q => ∃ x n, xs = [x] ∧ LenV K x H n ∧ Q (.int n) H) (tCons (tOp (rIxT K) (tVar 0) (tVar 2)) tNil)))) (by rfl) nd (pi_enumT (by rfl) T.enumerate (pa_cons (pv 1) pa_nil))
  (blkOk_by (own := [("at", 2), ("row", 3)]) (N := nWait) (sc := defScope sWait) (by decide +kernel))
  (fun _ _ _ _ _ => pg_tup rfl (pgs_cons (pg_name (i := 2) nd rfl (Or.inl rfl) (Or.inr rfl)) (pgs_cons (pg_name (i := 3) nd rfl (Or.inl rfl) (Or.inr rfl)) pgs_nil))) (fun _ _ _ _ _ => pts_one (pt_cmpR op_lt (pe_ix ix_tup (pv 3) pe_int (fun _ _ => rfl)) (pe_callB call_len (by rfl) T.len PySem.boot_len (pa_cons (pe_ix ix_tup (pv 0) (pv 2) (fun _ _ => rfl)) pa_nil)) (nomark _)))
  (fun _ _ _ _ _ => (pv 2))))), ?_⟩
    obtain ⟨_, ua, ea, nA, hA1, aA⟩ := at_tup hA
    cases ea
    obtain ⟨_, ub, eb, nB, hB1, aB⟩ := at_tup hB
    cases eb
    have lub : ub.length = xs.length := by
      rw [aB.length, List.length_map]
    refine ⟨_, rfl, _, _, rfl, SqT.of hB1, fun Dl hD => ?_⟩
    refine lc_it (walk_enumT (xs := ub)) (fun i H2 => Same H H2 ∧ H2 Dl = some (.lst ((waitL ss xs i).map fun k : Nat => V.int (k : Int)))) ?_ ?_ ?_ ?_
    · exact ⟨same_new hD, upd_same⟩
    · exact fun i H2 _ q => SqT.of (q.1 _ _ hB1)
    · rintro i y H2 H3 hi ⟨sm, hl⟩ ⟨T2, i', vr, rfl, hT2, rfl, ei, er⟩
      obtain rfl : V.int (i : Nat) = i' := Option.some.inj ei
      have hix : i < xs.length := by omega
      have his : i < ss.length := by omega
      obtain ⟨dr, e1, ar⟩ := aB.get er
      rw [List.getElem?_map, List.getElem?_eq_getElem hix] at e1
      cases e1
      obtain ⟨R, rfl, nR, hR⟩ := row_of ar
      obtain ⟨vsc, es1, asc⟩ := all_get (i := i) (d := .tuple (ss[i].map fun v => .str (wS v))) aA (by rw [List.getElem?_map, List.getElem?_eq_getElem his]; rfl)
      obtain ⟨aS, us, rfl, nS, hS, aS2⟩ := at_tup asc
      have lus : us.length = ss[i].length := by
        rw [aS2.length, List.length_map]
      have sT : Same H (upd H2 T2 (.tup [.int (i : Nat), .ref R])) := Same.tr sm (same_new hT2)
      have nDT : Dl ≠ T2 := ne_of_none hl hT2
      have hl3 : (upd H2 T2 (.tup [.int (i : Nat), .ref R])) Dl = some (.lst ((waitL ss xs i).map fun k : Nat => V.int (k : Int))) := by
        rw [upd_ne nDT]
        exact hl
      have hw : waitL ss xs (i + 1) = waitL ss xs i ++ (if xs[i].p < (ss[i].length : Int) then [i] else []) := by
        show waitL ss xs i ++ (match ss[i]?, xs[i]? with | some s, some x => (if x.p < (s.length : Int) then [i] else []) | _, _ => []) = _
        rw [List.getElem?_eq_getElem hix, List.getElem?_eq_getElem his]
      refine ⟨_, _, rfl, SqT.of upd_same, rfl, _, _, rfl, _, _, rfl, rfl, rfl, ?_⟩
      refine ⟨_, rfl, _, _, _, _, rfl, rfl, SqT.of (sT _ _ hR), rfl, ?_⟩
      refine ⟨_, rfl, _, rfl, _, _, _, _, rfl, rfl, SqT.of (sT _ _ hA1), atI_nat es1, ?_⟩
      refine ⟨_, _, rfl, (Or.inr ⟨_, SqT.of (sT _ _ hS), rfl⟩), ?_⟩
      refine ⟨_, _, rfl, rfl, _, rfl, ?_⟩
      rw [lus]
      by_cases hij : xs[i].p < (ss[i].length : Int)
      · rw [decide_eq_true hij]
        refine iteT ⟨_, rfl, _, hl3, ?_, ?_, ?_⟩
        · rw [List.length_map]
          have := waitL_len ss xs i
          exact small6 (by omega)
        · intro b u e
          rw [upd_ne (ne_of_none e hD)]
          exact sT _ _ e
        · rw [upd_same, hw, if_pos hij, List.map_append]
          rfl
      · rw [decide_eq_false hij]
        refine iteF ⟨sT, ?_⟩
        rw [hl3, hw, if_neg hij, List.append_nil]
    · rintro H2 ⟨s2, hl⟩
      rw [lub] at hl
      exact k _ _ hD s2 hl
end
end C81

set_option Elab.async false
set_option maxRecDepth 100000
set_option maxHeartbeats 4000000
set_option linter.all false
namespace C81
open PySem L2 My M78
abbrev sIsList : Stmt := top 13
abbrev sNum : Stmt := top 27
section
variable {P : Program} {w : World} {K : PySem.W.Frag} {mg : Str → Option Value} {base : Heap}
abbrev nIsList : List Str := ["thing"]
theorem scIsList : FnScope nIsList ["thing"] (defScope sIsList) := ⟨rfl, rfl, rfl, by decide +kernel, rfl, by decide +kernel, by decide +kernel⟩
def lt2 : PyData → Bool
  | .list _ => true
  | .tuple _ => true
  | _ => false
/-- a list or a tuple -/
def spIsList : Sp := fun vs H Q _ => ∃ (m : Addr) (o : HO) (x : V) (d : PyData), H m = some o ∧ vs = [x] ∧ At m H x d ∧ ∀ H', Same H H' → Q (.bl (lt2 d)) H'
theorem pr_isList (D : Df K mg "is_list" sIsList ["thing"]) (T : Ty mg) : Pr P w K mg base 1 "is_list" ["thing"] spIsList := by
  refine D.pr scIsList (fun vs H Q E h => ?_) (fun f cdv A outer s H vs Q E hr h => ?_)
  · obtain ⟨m, o, x, d, hm, rfl, _⟩ := h
    rfl
  · obtain ⟨m, o, x, d, hm, rfl, ha, k⟩ := h
    have nd := scIsList.nd
    refine ⟨_, (pss_one (ps_ret (pe_callB call_isiT (by rfl) T.isinstance (by decide +kernel) (pa_cons (pv 0) (pa_cons (pe_tup (pa_cons (pe_bltn (v := .ty "list") (by rfl) T.list (by decide +kernel) rfl) (pa_cons (pe_bltn (v := .ty "tuple") (by rfl) T.tuple (by decide +kernel) rfl) pa_nil))) pa_nil))))), ?_⟩
    refine ⟨_, rfl, (by show 2 ≤ sizeLine; decide), fun tp htp => ?_⟩
    have sm := same_new (o := .tup [.ty "list", .ty "tuple"]) htp
    have ha2 := ha.mono (Same.but (m := m) sm)
    refine ⟨_, _, _, _, _, lt2 d, rfl, upd_same, cls_all ["list", "tuple"], ha2.ty, kit_any ?_, ?_⟩
    · cases ha
      · exact k_NoneType_lt
      · exact k_bool_lt
      · exact k_int_lt
      · exact k_str_lt
      · exact k_list_lt
      · exact k_tuple_lt
    · exact k _ sm
abbrev nNum : List Str := ["thing", "many"]
theorem scNum : FnScope nNum ["thing", "many"] (defScope sNum) := ⟨rfl, rfl, rfl, by decide +kernel, rfl, by decide +kernel, by decide +kernel⟩
/-- a number below many -/
def spNum : Sp := fun vs H Q _ => ∃ (x : V) (n : Int), vs = [x, .int n] ∧ ((∃ i, x = .int i ∧ Q (.bl (decide (0 ≤ i ∧ i < n))) H) ∨ (∃ b, x = .bl b ∧ Q (.bl false) H) ∨ (∃ T, (∀ K, TyX K H x (.type T)) ∧ kitB T "int" = some false ∧ Q (.bl false) H))
theorem pr_num (D : Df K mg "is_number" sNum ["thing", "many"]) (T : Ty mg) : Pr P w K mg base 1 "is_number" ["thing", "many"] spNum := by
  refine D.pr scNum (fun vs H Q E h => ?_) (fun f cdv A outer s H vs Q E hr h => ?_)
  · obtain ⟨x, n, rfl, _⟩ := h
    rfl
  · obtain ⟨x, n, rfl, h⟩ := h
    have nd := scNum.nd
    refine ⟨_, (pss_one (ps_ret (pe_and (pe_callB call_isi (by rfl) T.isinstance (by decide +kernel) (pa_cons (pv 0) (pa_cons (pe_bltn (v := .ty "int") (by rfl) T.int (by decide +kernel) rfl) pa_nil))) (pe_and (pe_not (pe_callB call_isi (by rfl) T.isinstance (by decide +kernel) (pa_cons (pv 0) (pa_cons (pe_bltn (v := .ty "bool") (by rfl) T.bool (by decide +kernel) rfl) pa_nil)))) (pe_one (pe_chain op_le op_lt pe_int (pv 0) (pv 1))))))), ?_⟩
    rcases h with ⟨i, rfl, q⟩ | ⟨b, rfl, q⟩ | ⟨T9, ty, kn, q⟩
    · refine ⟨_, rfl, _, _, _, _, true, rfl, .ty "int", .base (.int i), kit_ty k_int_int, ?_⟩
      refine ⟨_, rfl, iteT ?_⟩
      refine ⟨_, rfl, _, _, _, _, false, rfl, .ty "bool", .base (.int i), kit_ty k_int_bool, ?_⟩
      refine ⟨_, rfl, _, rfl, iteT ?_⟩
      refine ⟨_, rfl, _, _, rfl, rfl, _, rfl, ?_⟩
      by_cases h1 : (0 : Int) ≤ i
      · rw [decide_eq_true h1]
        refine iteT ⟨_, rfl, _, _, rfl, rfl, ?_⟩
        rw [show decide (0 ≤ i ∧ i < n) = decide (i < n) from by simp [h1]] at q
        exact q
      · rw [decide_eq_false h1]
        refine iteF ?_
        rw [show decide (0 ≤ i ∧ i < n) = false from by simp [h1]] at q
        exact q
    · refine ⟨_, rfl, _, _, _, _, true, rfl, .ty "int", .base (.bl b), kit_ty k_bool_int, ?_⟩
      refine ⟨_, rfl, iteT ?_⟩
      refine ⟨_, rfl, _, _, _, _, true, rfl, .ty "bool", .base (.bl b), kit_ty k_bool_bool, ?_⟩
      exact ⟨_, rfl, _, rfl, iteF q⟩
    · refine ⟨_, rfl, _, _, _, _, false, rfl, .ty "int", ty _, kit_ty kn, ?_⟩
      exact ⟨_, rfl, iteF q⟩
end
end C81

set_option Elab.async false
set_option maxRecDepth 100000
set_option linter.all false
/-! Iterating a list or a tuple, whichever it is. -/
namespace My
open PySem L2
section
variable {X : Cx} {tg e : Expr}
theorem pi_or {wa wb : TI} (ha : PI X tg e wa) (hb : PI X tg e wb) : PI X tg e (fun σ H R => wa σ H R ∨ wb σ H R) := ⟨fun pins s σ H R I h => by
  rcases h with h | h
  · exact ha.run pins s σ H R I h
  · exact hb.run pins s σ H R I h⟩
def iSq (K : PySem.W.Frag) (tl : TE) : TI := fun σ H R => iList K tl σ H R ∨ iTup K tl σ H R
theorem pi_sq {tl : TE} (hl : PE X e tl) : PI X tg e (iSq X.K tl) := pi_or (pi_list hl) (pi_tup hl)
/-- a list or a tuple of these -/
def Sq (H : Hp) (a : Addr) (us : List V) : Prop := H a = some (.lst us) ∨ H a = some (.tup us)
theorem Sq.same {H H' : Hp} {a : Addr} {us : List V} (s : Same H H') (h : Sq H a us) : Sq H' a us := h.elim (fun h => .inl (s _ _ h)) fun h => .inr (s _ _ h)
theorem Sq.len {K : PySem.W.Frag} {H : Hp} {a : Addr} {us : List V} (h : Sq H a us) : LenV K (.ref a) H us.length := h.elim (fun h => .inl ⟨_, SqL.of h, rfl⟩) fun h => .inr ⟨_, SqT.of h, rfl⟩
theorem isq {K : PySem.W.Frag} {tl : TE} {σ : L2.St} {H : Hp} {R : It → Hp → Prop} {a : Addr} {us : List V} (ht : ∀ Q : VK, Q (.ref a) H → tl σ H Q) (h : Sq H a us)
    (k : ∀ (J : It) (G : Hp → Prop), Walk J us.length G (YAt us) → (∀ H', (∀ o, H a = some o → H' a = some o) → G H') → R J H) : iSq K tl σ H R := by
  rcases h with h | h
  · exact .inl (ht _ ⟨a, rfl, ⟨us, SqL.of h⟩, k _ (fun H' => SqL K H' a us) walk_list (fun H' q => SqL.of (q _ h))⟩)
  · exact .inr (ht _ ⟨a, rfl, ⟨us, SqT.of h⟩, k _ (fun H' => SqT K H' a us) walk_tup (fun H' q => SqT.of (q _ h))⟩)
end
end My

set_option Elab.async false
set_option maxRecDepth 100000
set_option maxHeartbeats 4000000
set_option linter.all false
namespace C81
open PySem L2 My M78
abbrev sIsScript : Stmt := top 14
/-- the flags behind a word -/
def opB (v : Wd) (o : Bool) : Bool := isOp v || (o && !isEn v)
def rdB (v : Wd) (r : Bool) : Bool := decide (v = .sta) || (r && !decide (v = .sto))
def okW (v : Wd) (o r : Bool) : Bool := !(isOp v && o || (isEn v && !o)) && !(decide (v = .sta) && r || (decide (v = .sto) && !r))
def okS : Bool → Bool → List Wd → Bool
  | _, _, [] => true
  | o, r, v :: vs => okW v o r && okS (opB v o) (rdB v r) vs
/-- the flags behind n words -/
def flg (sc : List Wd) : Nat → Bool × Bool
  | 0 => (false, false)
  | n + 1 => match sc[n]? with | some v => (opB v (flg sc n).1, rdB v (flg sc n).2) | none => flg sc n
theorem in_all (v : Wd) : (!inV (.str (wS v)) (([.str (Str.ofString "begin"), .str (Str.ofString "immediate"), .str (Str.ofString "exclusive")] ++ [.str (Str.ofString "commit"), .str (Str.ofString "rollback")]) ++ [.str (Str.ofString "read"), .str (Str.ofString "start"), .str (Str.ofString "stop"), .str (Str.ofString "write")])) = false := by cases v <;> decide +kernel
theorem asg_tv {te : TE} {g : TG} {D : Ends} {σ : L2.St} {H : Hp} (x : V) (h : ∀ Q' : VK, Q' x H → te σ H Q') (k : g x σ H D.nx) : tAsg te g D σ H := h _ k
theorem seq_asg_tv {te : TE} {g : TG} {r : TS} {D : Ends} {σ : L2.St} {H : Hp} (x : V) (h : ∀ Q' : VK, Q' x H → te σ H Q') (k : g x σ H (r D)) : tSeq (tAsg te g) r D σ H := h _ k
section
variable {P : Program} {w : World} {K : PySem.W.Frag} {mg : Str → Option Value} {base : Heap}
abbrev nIsScript : List Str := ["thing", "opened", "reads", "step"]
theorem scIsScript : FnScope nIsScript ["thing"] (defScope sIsScript) := ⟨rfl, rfl, rfl, by decide +kernel, rfl, by decide +kernel, by decide +kernel⟩
/-- a script of known words, each allowed where it stands -/
def spIsScript : Sp := fun vs H Q _ => ∃ (m p : Addr) (o : HO) (sc : List Wd) (d : PyData), H m = some o ∧ vs = [.ref p] ∧ At m H (.ref p) d ∧ (d = .list (sc.map fun v => .str (wS v)) ∨ d = .tuple (sc.map fun v => .str (wS v))) ∧
  sc.length ≤ 8 ∧ (∀ n v, sc[n]? = some v → okW v (flg sc n).1 (flg sc n).2 = true) ∧ ∀ H', Same H H' → Q (.bl true) H'
theorem pr_isScript (D : Df K mg "is_script" sIsScript ["thing"]) (T : Ty mg) (T3 : mg "str" = none) (G : Tk K mg) (PL : Pr P w K mg base 1 "is_list" ["thing"] spIsList) : Pr P w K mg base 2 "is_script" ["thing"] spIsScript := by
  refine D.pr scIsScript (fun vs H Q E h => ?_) (fun f cdv A outer s H vs Q E hr h => ?_)
  · obtain ⟨m, p, o, sc, d, hm, rfl, _⟩ := h
    rfl
  · obtain ⟨m, p, o, sc, d, hm, rfl, ha, hd, hl, hok, k⟩ := h
    have nd := scIsScript.nd
    obtain ⟨aOp, gOp, qOp⟩ := G.op
    obtain ⟨aEn, gEn, qEn⟩ := G.en
    obtain ⟨aOt, gOt, qOt⟩ := G.ot
    refine ⟨_, (pss_cons (ps_if (PW.pt (pw_or (pt_not (pt_val (pe_callP PL hr (by rfl) (pa_cons (pv 0) pa_nil)))) (pw_or1 (pt_cmpR op_gt (pe_callB call_len (by rfl) T.len PySem.boot_len (pa_cons (pv 0) pa_nil)) pe_int (nomark _)))))
        (pss_one (ps_ret pe_bl))
        pss_nil)
      (pss_cons (ps_asg2 pe_bl (pg_name (i := 1) nd rfl (Or.inl rfl)) (pg_name (i := 2) nd rfl (Or.inl rfl)))
      (pss_cons (ps_for PassesOwn.never rfl (pi_sq (pv 0)) (pg_name (i := 3) nd rfl (Or.inl rfl))
        (pss_cons (ps_if (PW.pt (pw_or (pt_not (pt_val (pe_callB call_isi (by rfl) T.isinstance (by decide +kernel) (pa_cons (pv 3) (pa_cons (pe_bltn (v := .ty "str") (by rfl) T3 (by decide +kernel) rfl) pa_nil))))) (pw_or1 (pt_cmpR op_notIn_seq (pv 3) (pe_op op_catA (pe_op op_catA (pe_gR rfl gOp) (pe_gR rfl gEn)) (pe_gR rfl gOt)) (by rfl)))))
          (pss_one (ps_ret pe_bl))
          pss_nil)
        (pss_cons (ps_if (PW.pt (pw_or (PW.pt (pw_and (pt_cmpR op_in_seq (pv 3) (pe_gR rfl gOp) (by rfl)) (pw_and1 (pt_val (pv 1))))) (pw_or1 (PW.pt (pw_and (pt_cmpR op_in_seq (pv 3) (pe_gR rfl gEn) (by rfl)) (pw_and1 (pt_not (pt_val (pv 1)))))))))
          (pss_one (ps_ret pe_bl))
          pss_nil)
        (pss_cons (ps_if (PW.pt (pw_or (PW.pt (pw_and (pt_cmpR op_eq (pv 3) pe_str (nomark _)) (pw_and1 (pt_val (pv 2))))) (pw_or1 (PW.pt (pw_and (pt_cmpR op_eq (pv 3) pe_str (nomark _)) (pw_and1 (pt_not (pt_val (pv 2)))))))))
          (pss_one (ps_ret pe_bl))
          pss_nil)
        (pss_cons (ps_asg (pe_or (pe_cmpR op_in_seq (pv 3) (pe_gR rfl gOp) (by rfl)) (pe_one (pe_and (pv 1) (pe_one (pe_cmpR op_notIn_seq (pv 3) (pe_gR rfl gEn) (by rfl)))))) (pg_name (i := 1) nd rfl (Or.inl rfl)))
        (pss_one (ps_asg (pe_or (pe_cmpR op_eq (pv 3) pe_str (nomark _)) (pe_one (pe_and (pv 2) (pe_one (pe_cmpR op_ne (pv 3) pe_str (nomark _)))))) (pg_name (i := 2) nd rfl (Or.inl rfl)))))))))
      (pss_one (ps_ret pe_bl))))), ?_⟩
    obtain ⟨us, hsq, hus⟩ : ∃ us, Sq H p us ∧ AtAll m H us (sc.map fun v => .str (wS v)) := by
      rcases hd with rfl | rfl
      · cases ha with
        | lst n e q => exact ⟨_, .inl e, q⟩
      · cases ha with
        | tup n e q => exact ⟨_, .inr e, q⟩
    have hlen : us.length = sc.length := by
      rw [hus.length, List.length_map]
    have hlt : lt2 d = true := by
      rcases hd with rfl | rfl <;> rfl
    refine ⟨_, rfl, m, o, _, d, hm, rfl, ha, fun H1 s1 => ?_⟩
    rw [hlt]
    refine ⟨_, rfl, iteF ?_⟩
    refine ⟨_, rfl, _, _, rfl, (hsq.same s1).len, _, _, rfl, rfl, _, rfl, ?_⟩
    rw [decide_eq_false (show ¬ ((8 : Int) < (us.length : Int)) by omega)]
    refine iteF ?_
    refine isq (a := p) (us := us) (fun Q q => ⟨_, rfl, q⟩) (hsq.same s1) (fun J G W hG => ?_)
    refine for_it W (fun i σ H2 => Same H1 H2 ∧ ∃ o3, σ = [some (.ref p), some (.bl (flg sc i).1), some (.bl (flg sc i).2), o3]) ⟨fun _ _ e => e, _, rfl⟩ (fun i σ H2 _ q => hG _ (fun _ e => q.1 _ _ e)) ?_ ?_
    · rintro i x σ H2 H3 hi ⟨s2, o3, rfl⟩ ⟨rfl, ex⟩
      obtain ⟨dx, e1, ax⟩ := hus.get ex
      have his : i < sc.length := by omega
      have hv : sc[i]? = some sc[i] := List.getElem?_eq_getElem his
      rw [List.getElem?_map, hv] at e1
      cases e1
      cases ax
      have hw := hok i _ hv
      have hf : flg sc (i + 1) = (opB sc[i] (flg sc i).1, rdB sc[i] (flg sc i).2) := by
        show (match sc[i]? with | some v => (opB v (flg sc i).1, rdB v (flg sc i).2) | none => flg sc i) = _
        rw [hv]
      rw [hf]
      generalize sc[i] = v at *
      generalize (flg sc i).1 = fo at *
      generalize (flg sc i).2 = fr at *
      refine ⟨_, rfl, _, _, _, _, true, rfl, .ty "str", .base (.str _), kit_ty k_str_str, ?_⟩
      refine ⟨_, rfl, iteF ?_⟩
      have eSta : decide (V.str (wS v) = V.str (Str.ofString "start")) = decide (v = .sta) := eqW v .sta
      have eSto : decide (V.str (wS v) = V.str (Str.ofString "stop")) = decide (v = .sto) := eqW v .sto
      refine ⟨_, rfl, ?_⟩
      refine ⟨aOp, aEn, _, _, rfl, rfl, qOp _, qEn _, (by show 5 ≤ sizeLine; decide), (fun e => nomatch e), (fun _ e => nomatch e), fun _ _ p1 hp1 => ?_⟩
      have t1 := same_new (o := .tup ([.str (Str.ofString "begin"), .str (Str.ofString "immediate"), .str (Str.ofString "exclusive")] ++ [.str (Str.ofString "commit"), .str (Str.ofString "rollback")])) hp1
      refine ⟨p1, aOt, _, _, rfl, rfl, SqT.of upd_same, qOt _, (by show 9 ≤ sizeLine; decide), (fun e => nomatch e), (fun _ e => nomatch e), fun _ _ p2 hp2 => ?_⟩
      have t2 := same_new (o := .tup (([.str (Str.ofString "begin"), .str (Str.ofString "immediate"), .str (Str.ofString "exclusive")] ++ [.str (Str.ofString "commit"), .str (Str.ofString "rollback")]) ++ [.str (Str.ofString "read"), .str (Str.ofString "start"), .str (Str.ofString "stop"), .str (Str.ofString "write")])) hp2
      refine ⟨_, _, rfl, .inr (SqT.of upd_same), rfl, rfl, _, rfl, ?_⟩
      rw [in_all v]
      refine iteF ?_
      have s4 := Same.tr s2 (Same.tr t1 t2)
      dsimp only [tNext]
      refine seq_if_tv false (fun K' kk => ?_) (fun hb => by cases hb) (fun _ => ?_)
      · refine ⟨_, rfl, _, _, rfl, .inr (qOp _), rfl, rfl, _, rfl, ?_⟩
        rw [in_op v]
        cases hop : isOp v
        · refine iteF (iteF ⟨_, rfl, _, _, rfl, .inr (qEn _), rfl, rfl, _, rfl, ?_⟩)
          rw [in_en v]
          cases hen : isEn v
          · exact iteF kk
          · have hfo : fo = true := by
              cases fo
              · simp [okW, hop, hen] at hw
              · rfl
            subst hfo
            exact iteT ⟨_, rfl, _, rfl, kk⟩
        · have hfo : fo = false := by
            cases fo
            · rfl
            · simp [okW, hop] at hw
          subst hfo
          refine iteT ⟨_, rfl, _, rfl, iteF ⟨_, rfl, _, _, rfl, .inr (qEn _), rfl, rfl, _, rfl, ?_⟩⟩
          have hen : isEn v = false := by
            cases v <;> first | rfl | cases hop
          rw [in_en v, hen]
          exact iteF kk
      dsimp only [tNext]
      refine seq_if_tv false (fun K' kk => ?_) (fun hb => by cases hb) (fun _ => ?_)
      · refine ⟨_, rfl, rfl, _, rfl, ?_⟩
        rw [eSta]
        by_cases hst : v = .sta
        · have hfr : fr = false := by
            cases fr
            · rfl
            · simp [okW, hst] at hw
          rw [decide_eq_true hst]
          subst hfr
          refine iteT ⟨_, rfl, _, rfl, iteF ⟨_, rfl, rfl, _, rfl, ?_⟩⟩
          rw [eSto, decide_eq_false (show ¬ v = .sto by rw [hst]; decide)]
          exact iteF kk
        · rw [decide_eq_false hst]
          refine iteF (iteF ⟨_, rfl, rfl, _, rfl, ?_⟩)
          rw [eSto]
          by_cases hso : v = .sto
          · have hfr : fr = true := by
              cases fr
              · simp [okW, hso] at hw
              · rfl
            rw [decide_eq_true hso]
            subst hfr
            exact iteT ⟨_, rfl, _, rfl, kk⟩
          · rw [decide_eq_false hso]
            exact iteF kk
      dsimp only [tNext]
      refine seq_asg_tv (.bl (opB v fo)) (fun Q' kk => ?_) ?_
      · refine ⟨_, rfl, _, _, rfl, .inr (qOp _), rfl, rfl, _, rfl, ?_⟩
        rw [in_op v]
        unfold opB at kk
        cases hop : isOp v
        · rw [hop] at kk
          refine iteF ⟨_, rfl, _, rfl, ?_⟩
          cases fo
          · exact iteF kk
          · refine iteT ⟨_, rfl, _, _, rfl, .inr (qEn _), rfl, rfl, ?_⟩
            rw [in_en v]
            exact kk
        · rw [hop] at kk
          exact iteT kk
      dsimp only [gName]
      refine asg_tv (.bl (rdB v fr)) (fun Q' kk => ?_) ?_
      · refine ⟨_, rfl, rfl, _, rfl, ?_⟩
        rw [eSta]
        unfold rdB at kk
        cases hop : decide (v = .sta)
        · rw [hop] at kk
          refine iteF ⟨_, rfl, _, rfl, ?_⟩
          cases fr
          · exact iteF kk
          · refine iteT ⟨_, rfl, rfl, ?_⟩
            rw [eSto]
            exact kk
        · rw [hop] at kk
          exact iteT kk
      exact ⟨s4, _, rfl⟩
    · rintro σ H2 ⟨s2, o3, rfl⟩
      exact k _ (Same.tr s1 s2)
end
end C81

set_option Elab.async false
set_option maxRecDepth 100000
set_option maxHeartbeats 4000000
set_option linter.all false
namespace C81
open PySem L2 My M78
abbrev sRefused : Stmt := top 43
def refM (v : Wd) (o : Bool) (l t : Int) : Bool :=
  if isRs v = true then decide (l = 0) && decide (2 < t)
  else if (decide (v = .wri) && o) = true then decide (l < 2) && decide (1 < t)
  else if v = .imm then decide (1 < t)
  else if v = .com then decide (1 < l) && decide (0 < t)
  else (v == .wri || v == .exc) && decide (0 < t)
theorem in_we (v : Wd) : inV (.str (wS v)) [.str (Str.ofString "write"), .str (Str.ofString "exclusive")] = (v == .wri || v == .exc) := by cases v <;> decide +kernel
section
variable {P : Program} {w : World} {K : PySem.W.Frag} {mg : Str → Option Value} {base : Heap}
theorem and_tv {ta tb : TE} {σ : L2.St} {H : Hp} {Q : VK} (a c : Bool) (h1 : ∀ Q' : VK, Q' (.bl a) H → ta σ H Q') (h2 : ∀ Q' : VK, Q' (.bl c) H → tb σ H Q') (k : Q (.bl (a && c)) H) : tAndV ta tb σ H Q := h1 _ ⟨a, rfl, by
  cases a
  · exact iteF k
  · exact iteT (h2 _ k)⟩
theorem scRefused : FnScope ["_law_word", "_law_opened", "_law_lock", "_law_top"] ["_law_word", "_law_opened", "_law_lock", "_law_top"] (defScope sRefused) := ⟨rfl, rfl, rfl, by decide +kernel, rfl, by decide +kernel, by decide +kernel⟩
def spRefused : Sp := fun vs H Q _ => ∃ (v : Wd) (o : Bool) (l t : Int), vs = [.str (wS v), .bl o, .int l, .int t] ∧ ∀ H', Same H H' → Q (.bl (refM v o l t)) H'
theorem pr_refused (D : Df K mg "_law_refused" sRefused ["_law_word", "_law_opened", "_law_lock", "_law_top"]) : Pr P w K mg base 1 "_law_refused" ["_law_word", "_law_opened", "_law_lock", "_law_top"] spRefused := by
  refine D.pr scRefused (fun vs H Q E h => ?_) (fun f cdv A outer s H vs Q E hr h => ?_)
  · obtain ⟨v, o, l, t, rfl, _⟩ := h
    rfl
  · obtain ⟨v, o, l, t, rfl, k⟩ := h
    have nd := scRefused.nd
    have eW : ∀ u, decide (V.str (wS v) = V.str (wS u)) = decide (v = u) := eqW v
    unfold refM at k
    refine ⟨_, (pss_cons (ps_if (pt_cmpR op_in_seq (pv 0) (pe_tup (pa_cons pe_str (pa_cons pe_str pa_nil))) (by rfl))
        (pss_one (ps_ret (pe_and (pe_cmpR op_eq (pv 2) pe_int (nomark _)) (pe_one (pe_cmpR op_gt (pv 3) pe_int (nomark _))))))
        pss_nil)
      (pss_cons (ps_if (PW.pt (pw_and (pt_cmpR op_eq (pv 0) pe_str (nomark _)) (pw_and1 (pt_val (pv 1)))))
        (pss_one (ps_ret (pe_and (pe_cmpR op_lt (pv 2) pe_int (nomark _)) (pe_one (pe_cmpR op_gt (pv 3) pe_int (nomark _))))))
        pss_nil)
      (pss_cons (ps_if (pt_cmpR op_eq (pv 0) pe_str (nomark _))
        (pss_one (ps_ret (pe_cmpR op_gt (pv 3) pe_int (nomark _))))
        pss_nil)
      (pss_cons (ps_if (pt_cmpR op_eq (pv 0) pe_str (nomark _))
        (pss_one (ps_ret (pe_and (pe_cmpR op_gt (pv 2) pe_int (nomark _)) (pe_one (pe_cmpR op_gt (pv 3) pe_int (nomark _))))))
        pss_nil)
      (pss_one (ps_ret (pe_and (pe_cmpR op_in_seq (pv 0) (pe_tup (pa_cons pe_str (pa_cons pe_str pa_nil))) (by rfl)) (pe_one (pe_cmpR op_gt (pv 3) pe_int (nomark _)))))))))), ?_⟩
    refine ⟨_, rfl, (by show 2 ≤ sizeLine; decide), fun tp htp => ?_⟩
    have s1 := same_new (o := .tup [.str (Str.ofString "read"), .str (Str.ofString "start")]) htp
    refine ⟨_, _, rfl, .inr (SqT.of upd_same), rfl, rfl, _, rfl, ?_⟩
    rw [in_rs v]
    refine ite2 (fun h1 => ?_) (fun h1 => ?_)
    · rw [if_pos (show isRs v = true from h1)] at k
      refine and_tv (decide (l = 0)) (decide (2 < t)) (fun Q' kk => ⟨_, rfl, rfl, ?_⟩) (fun Q' kk => ⟨_, rfl, _, _, rfl, rfl, kk⟩) (k _ s1)
      rw [vint]
      exact kk
    rw [if_neg (show ¬ isRs v = true from h1)] at k
    dsimp only [tNext]
    refine seq_if_tv (decide (v = .wri) && o) (fun K' kk => ?_) (fun h2 => ?_) (fun h2 => ?_)
    · refine ⟨_, rfl, rfl, _, rfl, ?_⟩
      rw [show decide (V.str (wS v) = V.str (Str.ofString "write")) = decide (v = .wri) from eqW v .wri]
      cases hh : decide (v = .wri)
      · rw [hh] at kk
        exact iteF kk
      · rw [hh] at kk
        exact iteT ⟨_, rfl, _, rfl, kk⟩
    · rw [if_pos h2] at k
      exact and_tv (decide (l < 2)) (decide (1 < t)) (fun Q' kk => ⟨_, rfl, _, _, rfl, rfl, kk⟩) (fun Q' kk => ⟨_, rfl, _, _, rfl, rfl, kk⟩) (k _ s1)
    rw [if_neg (by rw [h2]; decide)] at k
    dsimp only [tNext]
    refine seq_if_tv (decide (v = .imm)) (fun K' kk => ⟨_, rfl, rfl, _, rfl, ?_⟩) (fun h3 => ?_) (fun h3 => ?_)
    · rw [show decide (V.str (wS v) = V.str (Str.ofString "immediate")) = decide (v = .imm) from eqW v .imm]
      exact kk
    · rw [if_pos (of_decide_eq_true h3)] at k
      exact ⟨_, rfl, _, _, rfl, rfl, k _ s1⟩
    rw [if_neg (of_decide_eq_false h3)] at k
    dsimp only [tNext]
    refine seq_if_tv (decide (v = .com)) (fun K' kk => ⟨_, rfl, rfl, _, rfl, ?_⟩) (fun h4 => ?_) (fun h4 => ?_)
    · rw [show decide (V.str (wS v) = V.str (Str.ofString "commit")) = decide (v = .com) from eqW v .com]
      exact kk
    · rw [if_pos (of_decide_eq_true h4)] at k
      exact and_tv (decide (1 < l)) (decide (0 < t)) (fun Q' kk => ⟨_, rfl, _, _, rfl, rfl, kk⟩) (fun Q' kk => ⟨_, rfl, _, _, rfl, rfl, kk⟩) (k _ s1)
    rw [if_neg (of_decide_eq_false h4)] at k
    dsimp only [tNext]
    refine ⟨_, rfl, (by show 2 ≤ sizeLine; decide), fun tq htq => ?_⟩
    have s2 := Same.tr s1 (same_new (o := .tup [.str (Str.ofString "write"), .str (Str.ofString "exclusive")]) htq)
    refine ⟨_, _, rfl, .inr (SqT.of upd_same), rfl, rfl, _, rfl, ?_⟩
    rw [in_we v]
    cases hw : (v == .wri || v == .exc)
    · rw [hw] at k
      exact iteF (k _ s2)
    · rw [hw] at k
      exact iteT ⟨_, rfl, _, _, rfl, rfl, k _ s2⟩
end
end C81

set_option Elab.async false
set_option maxRecDepth 100000
set_option maxHeartbeats 4000000
set_option linter.all false
namespace C81
open PySem L2 My M78
abbrev sBegun : Stmt := top 46
def row0 : Row := ⟨0, false, false, 0⟩
def Rows0 (m : Addr) (H : Hp) (vs : List V) : Prop := ∀ v ∈ vs, ∃ R, v = .ref R ∧ R ≠ m ∧ H R = some (.tup (rowV row0))
theorem Rows0.all {m : Addr} {H : Hp} : ∀ {vs : List V}, Rows0 m H vs → AtAll m H vs ((List.replicate vs.length row0).map rowD)
  | [], _ => .nil
  | v :: vs, h => by
    obtain ⟨R, rfl, n, e⟩ := h v (List.mem_cons_self ..)
    exact .cons (row_at n e) (Rows0.all fun u hu => h u (List.mem_cons_of_mem _ hu))
section
variable {P : Program} {w : World} {K : PySem.W.Frag} {mg : Str → Option Value} {base : Heap}
abbrev nBegun : List Str := ["_law_scripts_here", "_law_one_here"]
theorem scBegun : FnScope nBegun ["_law_scripts_here"] (defScope sBegun) := ⟨rfl, rfl, rfl, by decide +kernel, rfl, by decide +kernel, by decide +kernel⟩
def spBegun : Sp := fun vs H Q _ => ∃ (m A : Addr) (o : HO) (ss : List (List Wd)), H m = some o ∧ vs = [.ref A] ∧ At m H (.ref A) (scD ss) ∧ ss.length ≤ 1000 ∧
  ∀ (q : Addr) (H' : Hp), H q = none → Same H H' → At m H' (.ref q) (stD (List.replicate ss.length row0)) → Q (.ref q) H'
theorem pr_begun (D : Df K mg "_law_begun" sBegun ["_law_scripts_here"]) (T : Ty mg) : Pr P w K mg base 1 "_law_begun" ["_law_scripts_here"] spBegun := by
  refine D.pr scBegun (fun vs H Q E h => ?_) (fun f cdv A outer s H vs Q E hr h => ?_)
  · obtain ⟨m, A, o, ss, hm, rfl, _⟩ := h
    rfl
  · obtain ⟨m, A, o, ss, hm, rfl, hA, hle, k⟩ := h
    have nd := scBegun.nd
    refine ⟨_, (pss_one (ps_ret (pe_callTy call_tuple_of (by rfl) T.tuple (by decide +kernel) (pa_cons (pe_lc (own := [("_law_one_here", 1)]) (g := gName 1) (tt := tYes) (by rfl) nd (pi_tup (pv 0))
  (blkOk_by (own := [("_law_one_here", 1)]) (N := nBegun) (sc := defScope sBegun) (by decide +kernel))
  (fun _ _ _ _ _ => pg_name (i := 1) nd rfl (Or.inl rfl) (Or.inr rfl)) (fun _ _ _ _ _ => pts_nil)
  (fun _ _ _ _ _ => (pe_tup (pa_cons pe_int (pa_cons pe_bl (pa_cons pe_bl (pa_cons pe_int pa_nil))))))) pa_nil)))), ?_⟩
    obtain ⟨_, ua, ea, nA, hA1, aA⟩ := at_tup hA
    cases ea
    have lua : ua.length = ss.length := by
      rw [aA.length, List.length_map]
    refine ⟨_, rfl, _, rfl, ⟨_, SqT.of hA1⟩, fun Dl hD => ?_⟩
    refine lc_it (walk_tup (xs := ua)) (fun i H2 => Same H H2 ∧ ∃ vs, H2 Dl = some (.lst vs) ∧ vs.length = i ∧ Rows0 m H2 vs) ?_ ?_ ?_ ?_
    · exact ⟨same_new hD, _, upd_same, rfl, fun v hv => nomatch hv⟩
    · exact fun i H2 _ q => SqT.of (q.1 _ _ hA1)
    · rintro i y H2 H3 hi ⟨sm, vs, hl, lv, av⟩ ⟨rfl, er⟩
      refine ⟨rfl, ?_⟩
      refine ⟨(by show 4 ≤ sizeLine; decide), fun R hR => ?_⟩
      have nD : Dl ≠ R := ne_of_none hl hR
      have nR : R ≠ m := fun z => by
        rw [z, sm _ _ hm] at hR
        cases hR
      have nDm : Dl ≠ m := fun z => by
        rw [z, hm] at hD
        cases hD
      refine ⟨vs, (by rw [upd_ne nD]; exact hl), small6 (by omega), ?_, vs ++ [.ref R], upd_same, by rw [List.length_append, lv]; rfl, ?_⟩
      · intro b u e
        rw [upd_ne (ne_of_none e hD)]
        exact same_new hR _ _ (sm _ _ e)
      · intro v hv
        rcases List.mem_append.mp hv with h | h
        · obtain ⟨R', rfl, n', e'⟩ := av v h
          have nn : R' ≠ Dl := ne_of e' hl (by intro z; cases z)
          exact ⟨R', rfl, n', by rw [upd_ne nn]; exact same_new hR _ _ e'⟩
        · obtain rfl := List.mem_singleton.mp h
          exact ⟨R, rfl, nR, by rw [upd_ne (Ne.symm nD)]; exact upd_same⟩
    · rintro H2 ⟨s2, vs, hl, lv, av⟩
      have av := av.all
      rw [lv, lua] at av
      refine ⟨_, _, rfl, .inl ⟨SqL.of hl, fun q hq => ?_⟩⟩
      have s3 := same_new (o := .tup vs) hq
      refine k q _ (Same.free s2 hq) (Same.tr s2 s3) (.tup (fun z => by rw [z, s2 _ _ hm] at hq; cases hq) upd_same (av.mono (Same.but (m := m) s3)))
end
end C81

set_option Elab.async false
set_option maxRecDepth 100000
set_option maxHeartbeats 4000000
set_option linter.all false
/-! Data apart from two objects; a list of data under construction. -/
namespace My
open PySem PySem.Spec PyProof.Rows L2
/-- all but two objects stay -/
def But2 (m c : Addr) (H H' : Hp) : Prop := ∀ b o, H b = some o → b ≠ m → b ≠ c → H' b = some o
mutual
theorem At.but2 {m c : Addr} {H H' : Hp} (b : But2 m c H H') : ∀ {v : V} {d : PyData}, At m H v d → At c H v d → At m H' v d
  | _, _, .non, _ => .non
  | _, _, .bl k, _ => .bl k
  | _, _, .int i, _ => .int i
  | _, _, .str x, _ => .str x
  | _, _, .lst n h q, .lst n' h' q' => by
    rw [h] at h'
    cases h'
    exact .lst n (b _ _ h n n') (AtAll.but2 b q q')
  | _, _, .tup n h q, .tup n' h' q' => by
    rw [h] at h'
    cases h'
    exact .tup n (b _ _ h n n') (AtAll.but2 b q q')
theorem AtAll.but2 {m c : Addr} {H H' : Hp} (b : But2 m c H H') : ∀ {vs : List V} {ds : List PyData}, AtAll m H vs ds → AtAll c H vs ds → AtAll m H' vs ds
  | _, _, .nil, _ => .nil
  | _, _, .cons h q, .cons h' q' => .cons (At.but2 b h h') (AtAll.but2 b q q')
end
mutual
theorem At.fresh {m c : Addr} {H : Hp} (hc : H c = none) : ∀ {v : V} {d : PyData}, At m H v d → At c H v d
  | _, _, .non => .non
  | _, _, .bl k => .bl k
  | _, _, .int i => .int i
  | _, _, .str x => .str x
  | _, _, .lst n h q => .lst (ne_of_none h hc) h (AtAll.fresh hc q)
  | _, _, .tup n h q => .tup (ne_of_none h hc) h (AtAll.fresh hc q)
theorem AtAll.fresh {m c : Addr} {H : Hp} (hc : H c = none) : ∀ {vs : List V} {ds : List PyData}, AtAll m H vs ds → AtAll c H vs ds
  | _, _, .nil => .nil
  | _, _, .cons h q => .cons (At.fresh hc h) (AtAll.fresh hc q)
end
theorem But2.swap {m c : Addr} {H H' : Hp} (b : But2 m c H H') : But2 c m H H' := fun x o e n1 n2 => b x o e n2 n1
theorem But2.ofM {m c : Addr} {H H' : Hp} (b : But m H H') : But2 m c H H' := fun x o e n1 _ => b x o e n1
theorem But2.upd {m c : Addr} {H : Hp} {o : HO} : But2 m c H (upd H c o) := fun x u e _ n => by
  rw [upd_ne n]
  exact e
theorem Same.new {H : Hp} {p : Addr} {o : HO} (h : H p = none) : Same H (upd H p o) := fun b u e => by
  rw [upd_ne (ne_of_none e h)]
  exact e
/-- at c a list of the values vs is being made, the data ds, apart from m and from itself -/
def Bld (m c : Addr) (H : Hp) (vs : List V) (ds : List PyData) : Prop := c ≠ m ∧ H c = some (.lst vs) ∧ AtAll m H vs ds ∧ AtAll c H vs ds
theorem Bld.start {m c : Addr} {H : Hp} {o : HO} (hm : H m = some o) (hc : H c = none) : Bld m c (upd H c (.lst [])) [] [] :=
  ⟨fun z => (by rw [z, hm] at hc; cases hc), upd_same, .nil, .nil⟩
theorem Bld.but {m c : Addr} {H H' : Hp} {vs : List V} {ds : List PyData} (h : Bld m c H vs ds) (b : But m H H') : Bld m c H' vs ds :=
  ⟨h.1, b _ _ h.2.1 h.1, h.2.2.1.mono b, h.2.2.2.but2 (But2.ofM b).swap h.2.2.1⟩
theorem Bld.same {m c : Addr} {H H' : Hp} {vs : List V} {ds : List PyData} (h : Bld m c H vs ds) (s : Same H H') : Bld m c H' vs ds := h.but (Same.but s)
theorem Bld.push {m c : Addr} {H : Hp} {vs : List V} {ds : List PyData} {v : V} {d : PyData} (h : Bld m c H vs ds) (a : At m H v d) (b : At c H v d) : Bld m c (upd H c (.lst (vs ++ [v]))) (vs ++ [v]) (ds ++ [d]) :=
  ⟨h.1, upd_same, (h.2.2.1.append a).but2 But2.upd (h.2.2.2.append b), (h.2.2.2.append b).but2 (fun x u e n1 _ => by rw [upd_ne n1]; exact e) (h.2.2.1.append a)⟩
theorem Bld.len {m c : Addr} {H : Hp} {vs : List V} {ds : List PyData} (h : Bld m c H vs ds) : vs.length = ds.length := h.2.2.1.length
/-- the list itself as data -/
theorem Bld.at {m c : Addr} {H : Hp} {vs : List V} {ds : List PyData} (h : Bld m c H vs ds) : At m H (.ref c) (.list ds) := .lst h.1 h.2.1 h.2.2.1
theorem Bld.tup {m c p : Addr} {H : Hp} {vs : List V} {ds : List PyData} {o : HO} (h : Bld m c H vs ds) (hm : H m = some o) (hp : H p = none) : At m (upd H p (.tup vs)) (.ref p) (.tuple ds) :=
  .tup (fun z => by rw [z, hm] at hp; cases hp) upd_same (h.2.2.1.mono (Same.but (Same.new hp)))
/-- a list or a tuple of these data -/
def Sq2 (d : PyData) (ds : List PyData) : Prop := d = .list ds ∨ d = .tuple ds
theorem Sq2.at {m : Addr} {H : Hp} {v : V} {d : PyData} {ds : List PyData} (s : Sq2 d ds) (h : At m H v d) : ∃ a vs, v = .ref a ∧ a ≠ m ∧ Sq H a vs ∧ AtAll m H vs ds := by
  rcases s with rfl | rfl
  · cases h with
    | lst n e q => exact ⟨_, _, rfl, n, .inl e, q⟩
  · cases h with
    | tup n e q => exact ⟨_, _, rfl, n, .inr e, q⟩
theorem Sq.sqLT {K : PySem.W.Frag} {H : Hp} {a : Addr} {vs : List V} (h : Sq H a vs) : SqL K H a vs ∨ SqT K H a vs := h.elim (fun h => .inl (SqL.of h)) fun h => .inr (SqT.of h)
def rTupOf (K : PySem.W.Frag) : List V → Hp → VK → Prop := fun xs H Q => ∃ p ys, xs = [.ref p] ∧ ((SqL K H p ys ∧ ∀ l, H l = none → Q (.ref l) (upd H l (.tup ys))) ∨ (SqT K H p ys ∧ Q (.ref p) H))
/-- tuple(x) of a list or a tuple of data -/
theorem tuple_any {K : PySem.W.Frag} {m a : Addr} {H : Hp} {vs : List V} {ds : List PyData} {o : HO} {Q : VK} (hm : H m = some o) (na : a ≠ m) (h : Sq H a vs) (q : AtAll m H vs ds)
    (k : ∀ (p : Addr) (H' : Hp), Same H H' → (p = a ∨ H p = none) → At m H' (.ref p) (.tuple ds) → Q (.ref p) H') : rTupOf K [.ref a] H Q := by
  rcases h with h | h
  · refine ⟨_, _, rfl, .inl ⟨SqL.of h, fun p hp => ?_⟩⟩
    exact k p _ (Same.new hp) (.inr hp) (.tup (fun z => by rw [z, hm] at hp; cases hp) upd_same (q.mono (Same.but (Same.new hp))))
  · exact ⟨_, _, rfl, .inr ⟨SqT.of h, k a H (fun _ _ e => e) (.inl rfl) (.tup na h q)⟩⟩
end My

set_option Elab.async false
set_option maxRecDepth 100000
set_option maxHeartbeats 4000000
set_option linter.all false
namespace C81
open PySem L2 My M78

def scE (sc : List Wd) : List PyData := sc.map fun v => .str (wS v)
/-- scripts, each a list or a tuple, all in a list or a tuple -/
def ScIn (ss : List (List Wd)) (d : PyData) : Prop := ∃ ds, Sq2 d ds ∧ Paired (fun sc e => Sq2 e (scE sc)) ss ds
def okScr (sc : List Wd) : Prop := sc.length ≤ 8 ∧ ∀ n v, sc[n]? = some v → okW v (flg sc n).1 (flg sc n).2 = true
theorem paired_get {α β : Type} {R : α → β → Prop} : ∀ {xs : List α} {ys : List β} {i : Nat} {y : β}, Paired R xs ys → ys[i]? = some y → ∃ x, xs[i]? = some x ∧ R x y
  | _, _, _, _, .nil, e => by simp at e
  | _, _, 0, _, .cons h _, e => by
    simp at e
    subst e
    exact ⟨_, rfl, h⟩
  | _, _, i + 1, y, .cons _ q, e => by
    obtain ⟨x, h1, h2⟩ := paired_get (i := i) (y := y) q (by simpa using e)
    exact ⟨x, by simpa using h1, h2⟩
theorem paired_len {α β : Type} {R : α → β → Prop} : ∀ {xs : List α} {ys : List β}, Paired R xs ys → xs.length = ys.length
  | _, _, .nil => rfl
  | _, _, .cons _ q => by rw [List.length_cons, List.length_cons, paired_len q]
theorem take_succ' {α : Type} {xs : List α} {i : Nat} {x : α} (h : xs[i]? = some x) : xs.take (i + 1) = xs.take i ++ [x] := by
  rw [List.take_add_one, h]
  rfl
abbrev sChecked : Stmt := top 15
abbrev nChecked : List Str := ["scripts", "script"]
theorem scChecked : FnScope nChecked ["scripts"] (defScope sChecked) := ⟨rfl, rfl, rfl, by decide +kernel, rfl, by decide +kernel, by decide +kernel⟩
abbrev sFirst : Stmt := top 16
abbrev nFirst : List Str := ["scripts", "script"]
theorem scFirst : FnScope nFirst ["scripts"] (defScope sFirst) := ⟨rfl, rfl, rfl, by decide +kernel, rfl, by decide +kernel, by decide +kernel⟩
section
variable {P : Program} {w : World} {K : PySem.W.Frag} {mg : Str → Option Value} {base : Heap}

def spChecked : Sp := fun vs H Q _ => ∃ (m A : Addr) (o : HO) (ss : List (List Wd)) (d : PyData), H m = some o ∧ vs = [.ref A] ∧ At m H (.ref A) d ∧ ScIn ss d ∧ 1 ≤ ss.length ∧ ss.length ≤ 4 ∧ (∀ sc ∈ ss, okScr sc) ∧
  ∀ (q : Addr) (H' : Hp), Same H H' → At m H' (.ref q) (scD ss) → Q (.ref q) H'
theorem pr_checked (D : Df K mg "checked" sChecked ["scripts"]) (T : Ty mg) (PL : Pr P w K mg base 1 "is_list" ["thing"] spIsList) (PI : Pr P w K mg base 2 "is_script" ["thing"] spIsScript) : Pr P w K mg base 3 "checked" ["scripts"] spChecked := by
  refine D.pr scChecked (fun vs H Q E h => ?_) (fun f cdv A outer s H vs Q E hr h => ?_)
  · obtain ⟨m, A, o, ss, d, hm, rfl, _⟩ := h
    rfl
  · obtain ⟨m, A, o, ss, d, hm, rfl, hA, ⟨ds, sq, pr⟩, l1, l4, hok, k⟩ := h
    have nd := scChecked.nd
    have hr1 := hr.mono (show 1 ≤ 2 by decide)
    refine ⟨_, (pss_cons (ps_if (PW.pt (pw_or (pt_not (pt_val (pe_callP PL hr1 (by rfl) (pa_cons (pv 0) pa_nil)))) (pw_or (pt_not (pt_chain op_le op_le pe_int (pe_callB call_len (by rfl) T.len PySem.boot_len (pa_cons (pv 0) pa_nil)) pe_int)) (pw_or1 (pt_not (pt_val (pe_callB (cr_all rfl) (by rfl) T.all (by decide +kernel) (pa_cons (pe_lc (own := [("script", 1)]) (g := gName 1) (tt := tYes) (by rfl) nd (pi_sq (pv 0))
  (blkOk_by (own := [("script", 1)]) (N := nChecked) (sc := defScope sChecked) (by decide +kernel))
  (fun _ _ _ _ _ => pg_name (i := 1) nd rfl (Or.inl rfl) (Or.inr rfl)) (fun _ _ _ _ _ => pts_nil)
  (fun _ _ _ _ _ => (pe_callP PI hr (by rfl) (pa_cons (pv 1) pa_nil)))) pa_nil))))))))
        (pss_one ps_never)
        pss_nil)
      (pss_one (ps_ret (pe_callTy call_tuple_of (by rfl) T.tuple (by decide +kernel) (pa_cons (pe_lc (own := [("script", 1)]) (g := gName 1) (tt := tYes) (te := tCB (rTupOf K) (tCons (tVar 1) tNil)) (by rfl) nd (pi_sq (pv 0))
  (blkOk_by (own := [("script", 1)]) (N := nChecked) (sc := defScope sChecked) (by decide +kernel))
  (fun _ _ _ _ _ => pg_name (i := 1) nd rfl (Or.inl rfl) (Or.inr rfl)) (fun _ _ _ _ _ => pts_nil)
  (fun _ _ _ _ _ => (pe_callTy call_tuple_of (by rfl) T.tuple (by decide +kernel) (pa_cons (pv 1) pa_nil)))) pa_nil))))), ?_⟩
    obtain ⟨_, ua, ea, nA, hA1, aA⟩ := sq.at hA
    cases ea
    have lds := paired_len pr
    have lua : ua.length = ss.length := by
      rw [aA.length, lds]
    have hlt : lt2 d = true := by
      rcases sq with rfl | rfl <;> rfl
    refine ⟨_, rfl, m, o, _, d, hm, rfl, hA, fun H1 s1 => ?_⟩
    rw [hlt]
    refine ⟨_, rfl, iteF ?_⟩
    refine ⟨_, rfl, _, _, rfl, (hA1.same s1).len, _, _, rfl, rfl, _, rfl, ?_⟩
    rw [decide_eq_true (show (1 : Int) ≤ (ua.length : Int) by omega)]
    refine iteT ⟨_, _, rfl, rfl, _, rfl, ?_⟩
    rw [decide_eq_true (show (ua.length : Int) ≤ 4 by omega)]
    refine iteF ?_
    refine isq (a := A) (us := ua) (fun Q q => ⟨_, rfl, q⟩) (hA1.same s1) (fun J G W hG => fun Dl hD => ?_)
    refine lc_it W (fun i H2 => Same H1 H2 ∧ H2 Dl = some (.lst ((List.replicate i true).map V.bl))) ?_ ?_ ?_ ?_
    · exact ⟨same_new hD, upd_same⟩
    · exact fun i H2 _ q => hG _ (fun _ e => q.1 _ _ e)
    · rintro i y H9 H2 hi ⟨sm, hl⟩ ⟨rfl, er⟩
      have s2 : Same H H2 := Same.tr s1 sm
      obtain ⟨de, e1, ae⟩ := aA.get er
      obtain ⟨sc, e2, sqe⟩ := paired_get pr e1
      obtain ⟨ap, us, rfl, nap, hap, aap⟩ := sqe.at ae
      have hokc := hok sc (List.mem_of_getElem? e2)
      refine ⟨rfl, ?_⟩
      refine ⟨_, rfl, m, ap, o, sc, de, s2 _ _ hm, rfl, ae.mono (Same.but s2), sqe, hokc.1, hokc.2, fun H4 s4 => ?_⟩
      refine ⟨_, s4 _ _ hl, ?_, ?_, ?_⟩
      · rw [List.length_map, List.length_replicate]
        exact small6 (by omega)
      · intro b u e
        rw [upd_ne (ne_of_none e hD)]
        exact s4 _ _ (sm _ _ e)
      · rw [upd_same, List.replicate_succ', List.map_append]
        rfl
    · rintro H2 ⟨s2, hl⟩
      refine ⟨_, _, rfl, SqL.of hl, ?_⟩
      rw [show (List.replicate ua.length true).all id = true from by simp]
      refine ⟨_, rfl, iteF ?_⟩
      have s3 : Same H H2 := Same.tr s1 s2
      refine isq (a := A) (us := ua) (fun Q q => ⟨_, rfl, q⟩) (hA1.same s3) (fun J G W hG => fun Dm hDm => ?_)
      have hm2 := s3 _ _ hm
      refine lc_it W (fun i H4 => Same H2 H4 ∧ ∃ vs, Bld m Dm H4 vs ((ss.take i).map fun sc => .tuple (scE sc))) ?_ ?_ ?_ ?_
      · exact ⟨same_new hDm, [], Bld.start hm2 hDm⟩
      · exact fun i H4 _ q => hG _ (fun _ e => q.1 _ _ e)
      · rintro i y H9 H4 hi ⟨sm, vs, bl⟩ ⟨rfl, er⟩
        have s4 : Same H H4 := Same.tr s3 sm
        obtain ⟨de, e1, ae⟩ := aA.get er
        obtain ⟨sc, e2, sqe⟩ := paired_get pr e1
        obtain ⟨ap, us, rfl, nap, hap, aap⟩ := sqe.at ae
        have neD : ap ≠ Dm := by
          rcases hap with h | h
          · exact ne_of_none (s3 _ _ h) hDm
          · exact ne_of_none (s3 _ _ h) hDm
        have aap4 := aap.mono (Same.but (m := m) s4)
        have aapD : AtAll Dm H4 us (scE sc) := (aap.mono (Same.but (m := m) s3)).fresh hDm |>.mono (Same.but sm)
        refine ⟨rfl, ?_⟩
        refine ⟨_, rfl, ?_⟩
        dsimp only [tNil]
        refine tuple_any (m := m) (ds := scE sc) (s4 _ _ hm) nap (hap.same s4) aap4 (fun p H6 s6 hp ap6 => ?_)
        have bl6 := bl.same s6
        have np : p ≠ Dm := by
          rcases hp with rfl | hp
          · exact neD
          · exact fun z => by
              rw [z, bl.2.1] at hp
              cases hp
        have apD : At Dm H6 (.ref p) (.tuple (scE sc)) := by
          cases ap6 with
          | tup n e q =>
            refine .tup np e ?_
            have : ∀ {vs : List V} {sc : List Wd}, AtAll m H6 vs (scE sc) → AtAll Dm H6 vs (scE sc) := by
              intro vs sc
              induction sc generalizing vs with
              | nil =>
                intro h
                cases h
                exact .nil
              | cons a r ih =>
                intro h
                cases h with
                | cons h1 h2 =>
                  cases h1
                  exact .cons (.str _) (ih h2)
            exact this q
        refine ⟨vs, bl6.2.1, ?_, ?_, vs ++ [.ref p], ?_⟩
        · rw [bl.len, List.length_map, List.length_take]
          exact small6 (by omega)
        · intro b u e
          rw [upd_ne (ne_of_none e hDm)]
          exact s6 _ _ (sm _ _ e)
        · rw [take_succ' e2, List.map_append]
          exact bl6.push ap6 apD
      · rintro H4 ⟨s4, vs, bl⟩
        have s5 : Same H H4 := Same.tr s3 s4
        rw [lua, List.take_length] at bl
        refine ⟨_, _, rfl, .inl ⟨SqL.of bl.2.1, fun q hq => ?_⟩⟩
        exact k q _ (Same.tr s5 (same_new hq)) (bl.tup (s5 _ _ hm) hq)
/-- the state at the beginning -/
def spFirst : Sp := fun vs H Q _ => ∃ (m A : Addr) (o : HO) (ss : List (List Wd)) (d : PyData), H m = some o ∧ vs = [.ref A] ∧ At m H (.ref A) d ∧ ScIn ss d ∧ 1 ≤ ss.length ∧ ss.length ≤ 4 ∧ (∀ sc ∈ ss, okScr sc) ∧
  ∀ (q : Addr) (H' : Hp), Same H H' → At m H' (.ref q) (stD (List.replicate ss.length row0)) → Q (.ref q) H'
theorem pr_first (D : Df K mg "first_state" sFirst ["scripts"]) (T : Ty mg) (G : Tk K mg) (PC : Pr P w K mg base 3 "checked" ["scripts"] spChecked) : Pr P w K mg base 4 "first_state" ["scripts"] spFirst := by
  refine D.pr scFirst (fun vs H Q E h => ?_) (fun f cdv A outer s H vs Q E hr h => ?_)
  · obtain ⟨m, A, o, ss, d, hm, rfl, _⟩ := h
    rfl
  · obtain ⟨m, A, o, ss, d, hm, rfl, hA, hin, l1, l4, hok, k⟩ := h
    have nd := scFirst.nd
    obtain ⟨_, g0⟩ := G.l0
    refine ⟨_, (pss_one (ps_ret (pe_callTy call_tuple_of (by rfl) T.tuple (by decide +kernel) (pa_cons (pe_lc (own := [("script", 1)]) (g := gName 1) (tt := tYes) (by rfl) nd (pi_tup (pe_callP PC hr (by rfl) (pa_cons (pv 0) pa_nil)))
  (blkOk_by (own := [("script", 1)]) (N := nFirst) (sc := defScope sFirst) (by decide +kernel))
  (fun _ _ _ _ _ => pg_name (i := 1) nd rfl (Or.inl rfl) (Or.inr rfl)) (fun _ _ _ _ _ => pts_nil)
  (fun _ _ _ _ _ => (pe_tup (pa_cons pe_int (pa_cons pe_bl (pa_cons pe_bl (pa_cons (pe_gI rfl g0) pa_nil))))))) pa_nil)))), ?_⟩
    refine ⟨_, rfl, m, A, o, ss, d, hm, rfl, hA, hin, l1, l4, hok, fun q H0 s0 aq => ?_⟩
    obtain ⟨_, ua, ea, nA, hA1, aA⟩ := at_tup aq
    cases ea
    have hm0 := s0 _ _ hm
    have lua : ua.length = ss.length := by
      rw [aA.length, List.length_map]
    refine ⟨_, rfl, ⟨_, SqT.of hA1⟩, fun Dl hD => ?_⟩
    refine lc_it (walk_tup (xs := ua)) (fun i H2 => Same H0 H2 ∧ ∃ vs, Bld m Dl H2 vs ((List.replicate i row0).map rowD)) ?_ ?_ ?_ ?_
    · exact ⟨same_new hD, [], Bld.start hm0 hD⟩
    · exact fun i H2 _ q => SqT.of (q.1 _ _ hA1)
    · rintro i y H2 H3 hi ⟨sm, vs, bl⟩ ⟨rfl, er⟩
      refine ⟨rfl, ?_⟩
      refine ⟨(by show 4 ≤ sizeLine; decide), fun R hR => ?_⟩
      have bl3 := bl.same (Same.new (o := .tup (rowV row0)) hR)
      have nR : R ≠ m := fun z => by
        rw [z, sm _ _ hm0] at hR
        cases hR
      have nD : R ≠ Dl := fun z => by
        rw [z, bl.2.1] at hR
        cases hR
      refine ⟨vs, bl3.2.1, ?_, ?_, vs ++ [.ref R], ?_⟩
      · rw [bl.len, List.length_map, List.length_replicate]
        exact small6 (by omega)
      · intro b u e
        rw [upd_ne (ne_of_none e hD)]
        exact same_new hR _ _ (sm _ _ e)
      · rw [List.replicate_succ', List.map_append]
        exact bl3.push (row_at nR upd_same) (row_at nD upd_same)
    · rintro H2 ⟨s2, vs, bl⟩
      rw [lua] at bl
      refine ⟨_, _, rfl, .inl ⟨SqL.of bl.2.1, fun q hq => ?_⟩⟩
      exact k q _ (Same.tr s0 (Same.tr s2 (same_new hq))) (bl.tup (s2 _ _ hm0) hq)
end
end C81

set_option Elab.async false
set_option maxRecDepth 100000
set_option maxHeartbeats 4000000
set_option linter.all false
namespace C81
open PySem L2 My M78
abbrev sLeft : Stmt := top 47
abbrev nLeft : List Str := ["_law_scripts_here", "_law_here", "_law_k"]
theorem scLeft : FnScope nLeft ["_law_scripts_here", "_law_here"] (defScope sLeft) := ⟨rfl, rfl, rfl, by decide +kernel, rfl, by decide +kernel, by decide +kernel⟩
section
variable {P : Program} {w : World} {K : PySem.W.Frag} {mg : Str → Option Value} {base : Heap}

/-- the scripts that have steps left -/
def spLeft : Sp := fun vs H Q _ => ∃ (m A B : Addr) (ss : List (List Wd)) (xs : List Row), vs = [.ref A, .ref B] ∧ At m H (.ref A) (scD ss) ∧ At m H (.ref B) (stD xs) ∧
  ss.length = xs.length ∧ xs.length ≤ 1000 ∧
  ∀ (q : Addr) (H' : Hp), H q = none → Same H H' → H' q = some (.lst ((waitL ss xs xs.length).map fun k : Nat => V.int (k : Int))) → Q (.ref q) H'
theorem pr_left (D : Df K mg "_law_left" sLeft ["_law_scripts_here", "_law_here"]) (T : Tx mg) (TR : mg "range" = none) : Pr P w K mg base 4 "_law_left" ["_law_scripts_here", "_law_here"] spLeft := by
  refine D.pr scLeft (fun vs H Q E h => ?_) (fun f cdv A outer s H vs Q E hr h => ?_)
  · obtain ⟨m, A, B, ss, xs, rfl, _⟩ := h
    rfl
  · obtain ⟨m, A, B, ss, xs, rfl, hA, hB, hle, hlen, k⟩ := h
    have nd := scLeft.nd
    refine ⟨_, (pss_one (ps_ret (pe_lc (own := [("_law_k", 2)]) (g := gName 2) (tt := tTest (tOp (rI0 fun i j => .bl (decide (i < j))) (tOp (rIxT K) (tOp (rIxT K) (tVar 1) (tVar 2)) (tC (.int 0))) (tCB (fun xs H Q => ∃ x n, xs = [x] ∧ LenV K x H n ∧ Q (.int n) H) (tCons (tOp (rIxT K) (tVar 0) (tVar 2)) tNil)))) (by rfl) nd (pi_range1 rfl TR (pa_cons (pe_callB call_len (by rfl) T.len PySem.boot_len (pa_cons (pv 0) pa_nil)) pa_nil))
  (blkOk_by (own := [("_law_k", 2)]) (N := nLeft) (sc := defScope sLeft) (by decide +kernel))
  (fun _ _ _ _ _ => pg_name (i := 2) nd rfl (Or.inl rfl) (Or.inr rfl)) (fun _ _ _ _ _ => pts_one (pt_cmpR op_lt (pe_ix ix_tup (pe_ix ix_tup (pv 1) (pv 2) (fun _ _ => rfl)) pe_int (fun _ _ => rfl)) (pe_callB call_len (by rfl) T.len PySem.boot_len (pa_cons (pe_ix ix_tup (pv 0) (pv 2) (fun _ _ => rfl)) pa_nil)) (nomark _)))
  (fun _ _ _ _ _ => (pv 2))))), ?_⟩
    obtain ⟨_, ua, ea, nA, hA1, aA⟩ := at_tup hA
    cases ea
    obtain ⟨_, ub, eb, nB, hB1, aB⟩ := at_tup hB
    cases eb
    have lub : ub.length = xs.length := by
      rw [aB.length, List.length_map]
    have lua : ua.length = xs.length := by
      rw [aA.length, List.length_map, hle]
    refine ⟨_, rfl, _, _, rfl, (Or.inr ⟨_, SqT.of hA1, rfl⟩), _, rfl, (by omega), (by omega), fun Dl hD => ?_⟩
    rw [show ((ua.length : Nat) : Int).toNat = xs.length by omega]
    refine lc_range (lo := 0) (n := xs.length) (fun i H2 => Same H H2 ∧ H2 Dl = some (.lst ((waitL ss xs i).map fun k : Nat => V.int (k : Int)))) ?_ ?_ ?_
    · exact ⟨same_new hD, upd_same⟩
    · rintro i H2 hi ⟨sm, hl⟩
      have hix : i < xs.length := hi
      have his : i < ss.length := by omega
      obtain ⟨vr, er, ar⟩ := all_get (i := i) (d := rowD xs[i]) aB (by rw [List.getElem?_map, List.getElem?_eq_getElem hix]; rfl)
      obtain ⟨R, rfl, nR, hR⟩ := row_of ar
      obtain ⟨vsc, es1, asc⟩ := all_get (i := i) (d := .tuple (ss[i].map fun v => .str (wS v))) aA (by rw [List.getElem?_map, List.getElem?_eq_getElem his]; rfl)
      obtain ⟨aS, us, rfl, nS, hS, aS2⟩ := at_tup asc
      have lus : us.length = ss[i].length := by
        rw [aS2.length, List.length_map]
      have hw : waitL ss xs (i + 1) = waitL ss xs i ++ (if xs[i].p < (ss[i].length : Int) then [i] else []) := by
        show waitL ss xs i ++ (match ss[i]?, xs[i]? with | some s, some x => (if x.p < (s.length : Int) then [i] else []) | _, _ => []) = _
        rw [List.getElem?_eq_getElem hix, List.getElem?_eq_getElem his]
      rw [show (0 : Int) + (i : Nat) = ((i : Nat) : Int) by omega]
      refine ⟨rfl, ?_⟩
      refine ⟨_, rfl, _, rfl, _, _, _, _, rfl, rfl, SqT.of (sm _ _ hB1), atI_nat er, ?_⟩
      refine ⟨_, _, _, _, rfl, rfl, SqT.of (sm _ _ hR), rfl, ?_⟩
      refine ⟨_, rfl, _, rfl, _, _, _, _, rfl, rfl, SqT.of (sm _ _ hA1), atI_nat es1, ?_⟩
      refine ⟨_, _, rfl, (Or.inr ⟨_, SqT.of (sm _ _ hS), rfl⟩), ?_⟩
      refine ⟨_, _, rfl, rfl, _, rfl, ?_⟩
      rw [lus]
      by_cases hij : xs[i].p < (ss[i].length : Int)
      · rw [decide_eq_true hij]
        refine iteT ⟨_, rfl, _, hl, ?_, ?_, ?_⟩
        · rw [List.length_map]
          have := waitL_len ss xs i
          exact small6 (by omega)
        · intro b u e
          rw [upd_ne (ne_of_none e hD)]
          exact sm _ _ e
        · rw [upd_same, hw, if_pos hij, List.map_append]
          rfl
      · rw [decide_eq_false hij]
        refine iteF ⟨sm, ?_⟩
        rw [hl, hw, if_neg hij, List.append_nil]
    · rintro H2 ⟨s2, hl⟩
      exact k _ _ hD s2 hl
end
end C81

set_option Elab.async false
set_option maxRecDepth 100000
set_option maxHeartbeats 4000000
set_option linter.all false
/-! Parts that give a known value and leave what stood as it was. -/
namespace My
open PySem PySem.Spec PyProof.Rows L2
/-- the expression gives v, what stood stands -/
def Gv (t : TE) (σ : L2.St) (H : Hp) (v : V) : Prop := ∀ Q : VK, (∀ H', Same H H' → Q v H') → t σ H Q
def Gt (t : TT) (σ : L2.St) (H : Hp) (b : Bool) : Prop := ∀ Q : Bool → Hp → Prop, (∀ H', Same H H' → Q b H') → t σ H Q
theorem Same.rfl' (H : Hp) : Same H H := fun _ _ e => e
theorem Same.tr' {H H1 H2 : Hp} (a : Same H H1) (b : Same H1 H2) : Same H H2 := fun x o e => b _ _ (a _ _ e)
theorem Gv.and {ta tb : TE} {σ : L2.St} {H : Hp} {a b : Bool} (h1 : Gv ta σ H (.bl a)) (h2 : ∀ H', Same H H' → Gv tb σ H' (.bl b)) : Gv (tAndV ta tb) σ H (.bl (a && b)) := fun Q k => h1 _ fun H1 s1 => ⟨a, rfl, by
  cases a
  · exact iteF (k _ s1)
  · exact iteT (h2 _ s1 _ fun H2 s2 => k _ (Same.tr' s1 s2))⟩
theorem Gv.or {ta tb : TE} {σ : L2.St} {H : Hp} {a b : Bool} (h1 : Gv ta σ H (.bl a)) (h2 : ∀ H', Same H H' → Gv tb σ H' (.bl b)) : Gv (tOrV ta tb) σ H (.bl (a || b)) := fun Q k => h1 _ fun H1 s1 => ⟨a, rfl, by
  cases a
  · exact iteF (h2 _ s1 _ fun H2 s2 => k _ (Same.tr' s1 s2))
  · exact iteT (k _ s1)⟩
theorem seq_asg_gv {te : TE} {g : TG} {r : TS} {D : Ends} {σ : L2.St} {H : Hp} {x : V} (h : Gv te σ H x) (k : ∀ H', Same H H' → g x σ H' (r D)) : tSeq (tAsg te g) r D σ H := h _ k
theorem asg_gv {te : TE} {g : TG} {D : Ends} {σ : L2.St} {H : Hp} {x : V} (h : Gv te σ H x) (k : ∀ H', Same H H' → g x σ H' D.nx) : tAsg te g D σ H := h _ k
theorem if_gt {c : TT} {t u : TS} {D : Ends} {σ : L2.St} {H : Hp} (b : Bool) (h : Gt c σ H b) (hT : b = true → ∀ H', Same H H' → t D σ H') (hF : b = false → ∀ H', Same H H' → u D σ H') : tIfS c t u D σ H := h _ fun H' s => (by
  cases b
  · exact iteF (hF rfl _ s)
  · exact iteT (hT rfl _ s))
theorem seq_if_gt {c : TT} {t u r : TS} {D : Ends} {σ : L2.St} {H : Hp} (b : Bool) (h : Gt c σ H b) (hT : b = true → ∀ H', Same H H' → t { D with nx := r D } σ H') (hF : b = false → ∀ H', Same H H' → u { D with nx := r D } σ H') : tSeq (tIfS c t u) r D σ H := if_gt b h hT hF
/-- a new tuple, a new list; the heap behind it by what stands in it -/
theorem new_tup {H : Hp} {xs : List V} {Q : VK} (hz : xs.length ≤ sizeLine) (k : ∀ p H', H p = none → Same H H' → H' p = some (.tup xs) → Q (.ref p) H') : xs.length ≤ sizeLine ∧ ∀ p, H p = none → Q (.ref p) (upd H p (.tup xs)) :=
  ⟨hz, fun p hp => k p _ hp (Same.new hp) upd_same⟩
theorem new_lst {H : Hp} {xs : List V} {Q : VK} (hz : xs.length ≤ sizeLine) (k : ∀ p H', H p = none → Same H H' → H' p = some (.lst xs) → Q (.ref p) H') : xs.length ≤ sizeLine ∧ ∀ p, H p = none → Q (.ref p) (upd H p (.lst xs)) :=
  ⟨hz, fun p hp => k p _ hp (Same.new hp) upd_same⟩
theorem Drw.same {H H' : Hp} {st c : Addr} {ns : List Int} (h : Drw H st c ns) (s : Same H H') : Drw H' st c ns := by
  obtain ⟨hc, n, v, b, h0, hs⟩ := h
  exact ⟨s _ _ hc, n, v, b, h0, s _ _ hs⟩
theorem Drw.nst {H : Hp} {st c p : Addr} {ns : List Int} (h : Drw H st c ns) (hp : H p = none) : p ≠ st := fun z => by
  obtain ⟨_, _, _, _, _, hs⟩ := h
  rw [z, hs] at hp
  cases hp
theorem Drw.at {H : Hp} {st c : Addr} {ns : List Int} (h : Drw H st c ns) : ∃ o, H st = some o := by
  obtain ⟨_, _, _, _, _, hs⟩ := h
  exact ⟨_, hs⟩
theorem But.tr' {p : Addr} {H H1 H2 : Hp} (a : But p H H1) (s : Same H1 H2) : But p H H2 := fun x o e n => s x o (a x o e n)
/-- what is new now was new before -/
theorem But.free {p q : Addr} {H H1 : Hp} (a : But p H H1) (n : q ≠ p) (h : H1 q = none) : H q = none := by
  cases e : H q with
  | none => rfl
  | some o =>
    rw [a q o e n] at h
    cases h
end My

set_option Elab.async false
set_option maxRecDepth 100000
set_option maxHeartbeats 4000000
set_option linter.all false
namespace C81
open PySem L2 My M78
abbrev sBehind : Stmt := top 44
abbrev nBehind : List Str := ["_law_word", "_law_opened", "_law_reads", "_law_lock", "_law_least"]
theorem scBehind : FnScope nBehind ["_law_word", "_law_opened", "_law_reads", "_law_lock"] (defScope sBehind) := ⟨rfl, rfl, rfl, by decide +kernel, rfl, by decide +kernel, by decide +kernel⟩

def bO (v : Wd) (o : Bool) : Bool := !isEn v && (o || isOp v)
def bR (v : Wd) (r : Bool) : Bool := !decide (v = .sto) && (r || decide (v = .sta))
def leastM : Wd → Int
  | .rea => 1 | .sta => 1 | .wri => 2 | .imm => 2 | .exc => 4 | _ => 0
def bL (v : Wd) (o r : Bool) (l : Int) : Int := if bO v o = true then max l (leastM v) else restL (bR v r)
def leastK : List (Key × V) := [(Sum.inr (Str.ofString "read"), .int 1), (Sum.inr (Str.ofString "start"), .int 1), (Sum.inr (Str.ofString "write"), .int 2), (Sum.inr (Str.ofString "immediate"), .int 2), (Sum.inr (Str.ofString "exclusive"), .int 4)]
theorem least_get (v : Wd) : (valV (mergeK [] leastK) (Sum.inr (wS v))).getD (.int 0) = .int (leastM v) := by cases v <;> decide +kernel
theorem in_op3 (v : Wd) : inV (.str (wS v)) [.str (Str.ofString "begin"), .str (Str.ofString "immediate"), .str (Str.ofString "exclusive")] = isOp v := in_op v
section
variable {P : Program} {w : World} {K : PySem.W.Frag} {mg : Str → Option Value} {base : Heap}

def spBehind : Sp := fun vs H Q _ => ∃ (v : Wd) (o r : Bool) (l : Int), vs = [.str (wS v), .bl o, .bl r, .int l] ∧
  ∀ (p : Addr) (H' : Hp), H p = none → Same H H' → H' p = some (.tup [.bl (bO v o), .bl (bR v r), .int (bL v o r l)]) → Q (.ref p) H'
theorem pr_behind (D : Df K mg "_law_behind" sBehind ["_law_word", "_law_opened", "_law_reads", "_law_lock"]) (T : Tx mg) (TM : mg "max" = none) : Pr P w K mg base 1 "_law_behind" ["_law_word", "_law_opened", "_law_reads", "_law_lock"] spBehind := by
  refine D.pr scBehind (fun vs H Q E h => ?_) (fun f cdv A outer s H vs Q E hr h => ?_)
  · obtain ⟨v, o, r, l, rfl, _⟩ := h
    rfl
  · obtain ⟨v, o, r, l, rfl, k⟩ := h
    have nd := scBehind.nd
    refine ⟨_, (pss_cons (ps_asg (pe_and (pe_cmpR op_notIn_seq (pv 0) (pe_tup (pa_cons pe_str (pa_cons pe_str pa_nil))) (by rfl)) (pe_one (pe_or (pv 1) (pe_one (pe_cmpR op_in_seq (pv 0) (pe_tup (pa_cons pe_str (pa_cons pe_str (pa_cons pe_str pa_nil)))) (by rfl)))))) (pg_name (i := 1) nd rfl (Or.inl rfl)))
      (pss_cons (ps_asg (pe_and (pe_cmpR op_ne (pv 0) pe_str (nomark _)) (pe_one (pe_or (pv 2) (pe_one (pe_cmpR op_eq (pv 0) pe_str (nomark _)))))) (pg_name (i := 2) nd rfl (Or.inl rfl)))
      (pss_cons (ps_if (pt_not (pt_val (pv 1)))
        (pss_one (ps_ret (pe_tup (pa_cons (pv 1) (pa_cons (pv 2) (pa_cons (pe_callTy call_int1 (by rfl) T.int (by decide +kernel) (pa_cons (pv 2) pa_nil)) pa_nil))))))
        pss_nil)
      (pss_cons (ps_asg (pe_disp (pps_cons pe_str pe_int (pps_cons pe_str pe_int (pps_cons pe_str pe_int (pps_cons pe_str pe_int (pps_cons pe_str pe_int pps_nil))))) (by rfl) (by rfl) (fun z => by cases z) (by decide)) (pg_name (i := 4) nd rfl (Or.inl rfl)))
      (pss_one (ps_ret (pe_tup (pa_cons (pv 1) (pa_cons (pv 2) (pa_cons (pe_callB (call_max2 rfl) (by rfl) TM (by decide +kernel) (pa_cons (pv 3) (pa_cons (pe_dget2 (hu_of hr) (pv 4) (pv 0) pe_int ⟨rfl, rfl, rfl, rfl⟩) pa_nil))) pa_nil)))))))))), ?_⟩
    refine seq_asg_gv (x := .bl (bO v o)) (Gv.and (fun Q' kk => ?_) (fun H1 s1 => Gv.or (fun Q' kk => ⟨_, rfl, kk _ (Same.rfl' _)⟩) (fun H2 s2 Q' kk => ?_))) ?_
    · refine ⟨_, rfl, (by show 2 ≤ sizeLine; decide), fun tp htp => ?_⟩
      refine ⟨_, _, rfl, .inr (SqT.of upd_same), rfl, rfl, ?_⟩
      rw [in_en v]
      exact kk _ (same_new htp)
    · refine ⟨_, rfl, (by show 3 ≤ sizeLine; decide), fun tp htp => ?_⟩
      refine ⟨_, _, rfl, .inr (SqT.of upd_same), rfl, rfl, ?_⟩
      rw [in_op v]
      exact kk _ (same_new htp)
    intro H1 s1
    refine seq_asg_gv (x := .bl (bR v r)) (Gv.and (fun Q' kk => ?_) (fun H1 s1 => Gv.or (fun Q' kk => ⟨_, rfl, kk _ (Same.rfl' _)⟩) (fun H2 s2 Q' kk => ?_))) ?_
    · refine ⟨_, rfl, rfl, ?_⟩
      rw [show decide (V.str (wS v) = V.str (Str.ofString "stop")) = decide (v = .sto) from eqW v .sto]
      exact kk _ (Same.rfl' _)
    · refine ⟨_, rfl, rfl, ?_⟩
      rw [show decide (V.str (wS v) = V.str (Str.ofString "start")) = decide (v = .sta) from eqW v .sta]
      exact kk _ (Same.rfl' _)
    intro H2 s2
    have s3 : Same H H2 := Same.tr s1 s2
    refine seq_if_tv (!bO v o) (fun K' kk => ⟨_, rfl, _, rfl, kk⟩) (fun hb => ?_) (fun hb => ?_)
    · refine ⟨_, rfl, _, rfl, _, rfl, .inr ⟨_, rfl, (by show 3 ≤ sizeLine; decide), fun p hp => ?_⟩⟩
      refine k p _ (Same.free s3 hp) (Same.tr s3 (same_new hp)) ?_
      rw [upd_same]
      have hb2 : bO v o = false := by simpa using hb
      unfold bL
      rw [hb2]
      rfl
    · dsimp only [tNext]
      have hb2 : bO v o = true := by simpa using hb
      intro dp hdp
      refine ⟨upd_same, leastK, rfl, (by show 5 ≤ 15; decide), ?_⟩
      have s4 : Same H2 (upd (upd H2 dp (.dK [])) dp (.dK (mergeK [] leastK))) := fun b u e => by
        rw [upd_ne (ne_of_none e hdp), upd_ne (ne_of_none e hdp)]
        exact e
      refine ⟨_, rfl, _, rfl, _, rfl, _, rfl, dp, rfl, .inl ⟨_, Rd.of upd_same⟩, _, rfl, _, DGet.k (k := Sum.inr (wS v)) upd_same, ?_⟩
      rw [least_get v]
      refine ⟨_, _, rfl, (by show 3 ≤ sizeLine; decide), fun p hp => ?_⟩
      have s5 := Same.tr s3 s4
      refine k p _ (Same.free s5 hp) (Same.tr s5 (same_new hp)) ?_
      rw [upd_same, max2]
      unfold bL
      rw [if_pos hb2]
end
end C81

set_option Elab.async false
set_option maxRecDepth 100000
set_option maxHeartbeats 4000000
set_option linter.all false
namespace C81
open PySem L2 My M78
abbrev sAfter : Stmt := top 45
abbrev nAfter : List Str := ["_law_scripts_here", "_law_here", "_law_at", "_law_place", "_law_opened", "_law_reads", "_law_lock", "_law_word", "_law_top", "_law_held", "_law_k", "_law_row"]
theorem scAfter : FnScope nAfter ["_law_scripts_here", "_law_here", "_law_at"] (defScope sAfter) := ⟨rfl, rfl, rfl, by decide +kernel, rfl, by decide +kernel, by decide +kernel⟩

def afterM (v : Wd) (x : Row) (t : Int) : Row × Bool :=
  if refM v x.o x.l t = true then (⟨x.p, x.o, x.r, if v = .com then max x.l 3 else x.l⟩, true) else (⟨x.p + 1, bO v x.o, bR v x.r, bL v x.o x.r x.l⟩, false)
theorem foldl_max (l : List Int) : ∀ a, a ≤ l.foldl max a ∧ (∀ n ∈ l, n ≤ l.foldl max a) ∧ (l.foldl max a = a ∨ l.foldl max a ∈ l) := by
  induction l with
  | nil => exact fun a => ⟨Int.le_refl _, fun n hn => (by cases hn), .inl rfl⟩
  | cons b r ih =>
    intro a
    obtain ⟨h1, h2, h3⟩ := ih (max a b)
    rw [List.foldl_cons]
    refine ⟨by omega, fun n hn => ?_, ?_⟩
    · rcases List.mem_cons.mp hn with rfl | h
      · omega
      · exact h2 n h
    · rcases h3 with h3 | h3
      · rw [h3]
        rcases Int.le_total a b with h | h
        · exact .inr (List.mem_cons.mpr (.inl (by omega)))
        · exact .inl (by omega)
      · exact .inr (List.mem_cons_of_mem _ h3)
theorem top_is {l : List Int} {m : Int} (h0 : ∀ n ∈ l, 0 ≤ n) (h1 : m ∈ (0 : Int) :: l) (h2 : ∀ y ∈ (0 : Int) :: l, y ≤ m) : m = topOf 0 l := by
  cases l with
  | nil => exact List.mem_singleton.mp h1
  | cons a r =>
    obtain ⟨q1, q2, q3⟩ := foldl_max r a
    show m = r.foldl max a
    have e1 : m ≤ r.foldl max a := by
      rcases List.mem_cons.mp h1 with rfl | h
      · have := h0 a (List.mem_cons_self ..)
        omega
      · rcases List.mem_cons.mp h with rfl | h
        · exact q1
        · exact q2 _ h
    have e2 : r.foldl max a ≤ m := by
      rcases q3 with q3 | q3
      · rw [q3]
        exact h2 _ (List.mem_cons_of_mem _ (List.mem_cons_self ..))
      · exact h2 _ (List.mem_cons_of_mem _ (List.mem_cons_of_mem _ q3))
    omega
theorem othL_mem (xs : List Row) (j : Nat) : ∀ n y, y ∈ othL xs j n → ∃ x ∈ xs, x.l = y
  | 0, y, h => nomatch h
  | n + 1, y, h => by
    rw [othL_succ] at h
    rcases List.mem_append.mp h with h | h
    · exact othL_mem xs j n y h
    · split at h
      · cases h
      · split at h
        · rename_i x hx
          exact ⟨x, List.mem_of_getElem? hx, (List.mem_singleton.mp h).symm⟩
        · cases h
section
variable {P : Program} {w : World} {K : PySem.W.Frag} {mg : Str → Option Value} {base : Heap}

/-- a state with one row put in: here[:at] + (row,) + here[at + 1:] -/
theorem splice {m B : Addr} {σ : L2.St} {H : Hp} {ub : List V} {xs : List Row} {j : Nat} {tR : TE} {o : HO} {row : Row} {Q : VK} (h1 : σ[1]? = some (some (.ref B))) (h2 : σ[2]? = some (some (.int (j : Int)))) (hm : H m = some o) (nB : B ≠ m) (hB1 : H B = some (.tup ub)) (aB : AtAll m H ub (xs.map rowD))
    (hj : j < xs.length) (hlen : xs.length ≤ 1000) (hR : ∀ H1, Same H H1 → ∀ Q : VK, (∀ q H2, Same H1 H2 → q ≠ m → H2 q = some (.tup (rowV row)) → Q (.ref q) H2) → tR σ H1 Q)
    (k : ∀ p H', Same H H' → At m H' (.ref p) (stD (xs.set j row)) → Q (.ref p) H') :
    tOp (rCatA K) (tOp (rCatA K) (tSl (rSlA K) (tVar 1) tNoPart (tPart (tVar 2))) (tTup (tCons tR tNil))) (tSl (rSlA K) (tVar 1) (tPart (tOp (rI0 fun i j => .int (i + j)) (tVar 2) (tC (.int 1)))) tNoPart) σ H Q := by
  have lub : ub.length = xs.length := by
    rw [aB.length, List.length_map]
  have w1 : ¬ (HT.sIx ub.length 0 none = 0 ∧ HT.sIx ub.length ub.length (some (j : Int)) = ub.length) := fun z => by
    have := z.2
    rw [HT.sIx_nat] at this
    omega
  refine ⟨_, h1, _, h2, _, rfl, _, _, rfl, SqT.of hB1, fun z => absurd z w1, fun _ p1 hp1 => ?_⟩
  have c1 : cutV ub none (some (j : Int)) = ub.take j := by
    show (ub.drop 0).take (HT.sIx ub.length ub.length (some (j : Int)) - 0) = _
    rw [HT.sIx_nat, List.drop_zero, Nat.sub_zero, Nat.min_eq_left (by omega)]
  rw [c1]
  have s4 := same_new (o := .tup (ub.take j)) hp1
  refine hR _ s4 _ fun q H2 s42 nq hq => ⟨(by show 1 ≤ sizeLine; decide), fun p2 hp2 => ?_⟩
  have s5 := same_new (o := .tup [.ref q]) hp2
  have sa : Same H H2 := Same.tr s4 s42
  have hm4 := sa _ _ hm
  have n1 : p1 ≠ m := fun z => by
    rw [z, hm] at hp1
    cases hp1
  have n2 : p2 ≠ m := fun z => by
    rw [z, hm4] at hp2
    cases hp2
  show rCatA K _ _ _ _
  refine cat_any (m := m) (a := p1) (b := p2) (s5 _ _ (s42 _ _ upd_same)) upd_same n1 n2 (s5 _ _ hm4) (by rw [List.length_take]; show _ + 1 ≤ _; exact Nat.le_of_lt (small6 (by omega))) (fun p3 H5 n3 s6 h3 => ?_)
  have sm6 : Same H H5 := Same.tr (Same.tr sa s5) s6
  have hB5 := sm6 _ _ hB1
  have w2 : ¬ (HT.sIx ub.length 0 (some ((j + 1 : Nat) : Int)) = 0 ∧ HT.sIx ub.length ub.length none = ub.length) := fun z => by
    have := z.1
    rw [HT.sIx_nat] at this
    omega
  refine ⟨_, h1, _, h2, _, _, rfl, rfl, _, rfl, _, _, rfl, SqT.of hB5, fun z => absurd z w2, fun _ p4 hp4 => ?_⟩
  have c2 : cutV ub (some ((j : Int) + 1)) none = ub.drop (j + 1) := by
    show (ub.drop (HT.sIx ub.length 0 (some ((j + 1 : Nat) : Int)))).take (ub.length - HT.sIx ub.length 0 (some ((j + 1 : Nat) : Int))) = _
    rw [HT.sIx_nat, Nat.min_eq_left (by omega), List.take_of_length_le (by rw [List.length_drop]; omega)]
  rw [c2]
  have s7 := same_new (o := .tup (ub.drop (j + 1))) hp4
  have n4 : p4 ≠ m := fun z => by
    rw [z, sm6 _ _ hm] at hp4
    cases hp4
  show rCatA K _ _ _ _
  refine cat_any (m := m) (a := p3) (b := p4) (s7 _ _ h3) upd_same n3 n4 (s7 _ _ (sm6 _ _ hm)) (by rw [List.length_append, List.length_take, List.length_drop]; show _ + 1 + _ ≤ _; exact Nat.le_of_lt (small6 (by omega))) (fun p5 H6 n5 s8 h5 => ?_)
  have sm8 : Same H H6 := Same.tr (Same.tr sm6 s7) s8
  refine k p5 _ sm8 (.tup n5 h5 ?_)
  have hq6 : H6 q = some (.tup (rowV row)) := s8 _ _ (s7 _ _ (s6 _ _ (s5 _ _ hq)))
  have aB6 := aB.mono (Same.but (m := m) sm8)
  have e9 : (xs.set j row).map rowD = ((xs.map rowD).take j ++ [rowD row]) ++ (xs.map rowD).drop (j + 1) := by
    rw [List.set_eq_take_append_cons_drop, if_pos hj, List.map_append, List.map_cons, List.map_take, List.map_drop, List.append_assoc]
    rfl
  rw [e9]
  exact all_app (all_app (all_take j aB6) (.cons (row_at nq hq6) .nil)) (all_drop (j + 1) aB6)
/-- the law's own step of script number j -/
def spAfter : Sp := fun vs H Q _ => ∃ (m A B : Addr) (o : HO) (ss : List (List Wd)) (xs : List Row) (j p : Nat) (sc : List Wd) (x : Row) (v : Wd), H m = some o ∧ vs = [.ref A, .ref B, .int (j : Int)] ∧ At m H (.ref A) (scD ss) ∧ At m H (.ref B) (stD xs) ∧
  xs.length ≤ 1000 ∧ ss[j]? = some sc ∧ xs[j]? = some x ∧ x.p = (p : Int) ∧ sc[p]? = some v ∧ (∀ y ∈ xs, 0 ≤ y.l) ∧
  ∀ (q : Addr) (H' : Hp), Same H H' → At m H' (.ref q) (.tuple [stD (xs.set j (afterM v x (topM xs j)).1), .bool (afterM v x (topM xs j)).2]) → Q (.ref q) H'
theorem pr_after (D : Df K mg "_law_after" sAfter ["_law_scripts_here", "_law_here", "_law_at"]) (T : Tx mg) (TM : mg "max" = none) (PR : Pr P w K mg base 1 "_law_refused" ["_law_word", "_law_opened", "_law_lock", "_law_top"] spRefused)
    (PB : Pr P w K mg base 1 "_law_behind" ["_law_word", "_law_opened", "_law_reads", "_law_lock"] spBehind) : Pr P w K mg base 2 "_law_after" ["_law_scripts_here", "_law_here", "_law_at"] spAfter := by
  refine D.pr scAfter (fun vs H Q E h => ?_) (fun f cdv A outer s H vs Q E hr h => ?_)
  · obtain ⟨m, A, B, o, ss, xs, j, p, sc, x, v, hm, rfl, _⟩ := h
    rfl
  · obtain ⟨m, A, B, o, ss, xs, j, p, sc, x, v, hm, rfl, hA, hB, hlen, hsc, hx, hp, hv, h0, k⟩ := h
    have nd := scAfter.nd
    refine ⟨_, (pss_cons (ps_asg (pe_ix ix_tup (pv 1) (pv 2) (fun _ _ => rfl)) (pg_tup rfl (pgs_cons (pg_name (i := 3) nd rfl (Or.inl rfl)) (pgs_cons (pg_name (i := 4) nd rfl (Or.inl rfl)) (pgs_cons (pg_name (i := 5) nd rfl (Or.inl rfl)) (pgs_cons (pg_name (i := 6) nd rfl (Or.inl rfl)) pgs_nil))))))
      (pss_cons (ps_asg (pe_ix ix_tup (pe_ix ix_tup (pv 0) (pv 2) (fun _ _ => rfl)) (pv 3) (fun _ _ => rfl)) (pg_name (i := 7) nd rfl (Or.inl rfl)))
      (pss_cons (ps_asg (pe_callB (cr_max rfl) (by rfl) TM (by decide +kernel) (pa_cons (pe_op op_cat (pe_lst (pa_cons pe_int pa_nil)) (pe_lc (own := [("_law_k", 10), ("_law_row", 11)]) (g := gTup K 2 (gCons (gName 10) (gCons (gName 11) gNil))) (te := tOp (rIxT K) (tVar 11) (tC (.int 3))) (by rfl) nd (pi_enumT (by rfl) T.enumerate (pa_cons (pv 1) pa_nil))
  (blkOk_by (own := [("_law_k", 10), ("_law_row", 11)]) (N := nAfter) (sc := defScope sAfter) (by decide +kernel))
  (fun _ _ _ _ _ => pg_tup rfl (pgs_cons (pg_name (i := 10) nd rfl (Or.inl rfl) (Or.inr rfl)) (pgs_cons (pg_name (i := 11) nd rfl (Or.inl rfl) (Or.inr rfl)) pgs_nil))) (fun _ _ _ _ _ => pts_one (pt_cmpR op_ne (pv 10) (pv 2) (nomark _)))
  (fun _ _ _ _ _ => (pe_ix ix_tup (pv 11) pe_int (fun _ _ => rfl))))) pa_nil)) (pg_name (i := 8) nd rfl (Or.inl rfl)))
      (pss_cons (ps_if (pt_val (pe_callP PR hr (by rfl) (pa_cons (pv 7) (pa_cons (pv 4) (pa_cons (pv 6) (pa_cons (pv 8) pa_nil))))))
        (pss_cons (ps_asg (pe_ifExp (pt_cmpR op_eq (pv 7) pe_str (nomark _)) (pe_callB (call_max2 rfl) (by rfl) TM (by decide +kernel) (pa_cons (pv 6) (pa_cons pe_int pa_nil))) (pv 6)) (pg_name (i := 9) nd rfl (Or.inl rfl)))
        (pss_one (ps_ret (pe_tup (pa_cons (pe_op op_catA (pe_op op_catA (pe_slice sl_tupA (pv 1) po_none (po_some (pv 2))) (pe_tup (pa_cons (pe_tup (pa_cons (pv 3) (pa_cons (pv 4) (pa_cons (pv 5) (pa_cons (pv 9) pa_nil))))) pa_nil))) (pe_slice sl_tupA (pv 1) (po_some (pe_op op_add (pv 2) pe_int)) po_none)) (pa_cons pe_bl pa_nil))))))
        pss_nil)
      (pss_one (ps_ret (pe_tup (pa_cons (pe_op op_catA (pe_op op_catA (pe_slice sl_tupA (pv 1) po_none (po_some (pv 2))) (pe_tup (pa_cons (pe_op op_catA (pe_tup (pa_cons (pe_op op_add (pv 3) pe_int) pa_nil)) (pe_callP PB hr (by rfl) (pa_cons (pv 7) (pa_cons (pv 4) (pa_cons (pv 5) (pa_cons (pv 6) pa_nil)))))) pa_nil))) (pe_slice sl_tupA (pv 1) (po_some (pe_op op_add (pv 2) pe_int)) po_none)) (pa_cons pe_bl pa_nil))))))))), ?_⟩
    obtain ⟨_, ua, ea, nA, hA1, aA⟩ := at_tup hA
    cases ea
    obtain ⟨_, ub, eb, nB, hB1, aB⟩ := at_tup hB
    cases eb
    have lub : ub.length = xs.length := by
      rw [aB.length, List.length_map]
    have hj : j < xs.length := (List.getElem?_eq_some_iff.mp hx).1
    obtain ⟨vsc, es1, asc⟩ := all_get (i := j) (d := .tuple (sc.map fun v => .str (wS v))) aA (by rw [List.getElem?_map, hsc]; rfl)
    obtain ⟨aS, us, rfl, nS, hS, aS2⟩ := at_tup asc
    obtain ⟨vv, ev1, av⟩ := all_get (i := p) (d := .str (wS v)) aS2 (by rw [List.getElem?_map, hv]; rfl)
    cases av
    obtain ⟨vR, er1, aR⟩ := all_get (i := j) (d := rowD x) aB (by rw [List.getElem?_map, hx]; rfl)
    obtain ⟨R, rfl, nR, hR⟩ := row_of aR
    have hp2 : rowV x = [.int (p : Int), .bl x.o, .bl x.r, .int x.l] := by
      unfold rowV
      rw [hp]
    have hR2 : H R = some (.tup [.int (p : Int), .bl x.o, .bl x.r, .int x.l]) := by
      rw [← hp2]
      exact hR
    refine ⟨_, rfl, _, rfl, _, _, _, _, rfl, rfl, SqT.of hB1, atI_nat er1, ?_⟩
    refine ⟨_, _, rfl, SqT.of hR2, rfl, _, _, rfl, _, _, rfl, _, _, rfl, _, _, rfl, rfl, ?_⟩
    refine ⟨_, rfl, _, rfl, _, _, _, _, rfl, rfl, SqT.of hA1, atI_nat es1, ?_⟩
    refine ⟨_, rfl, _, _, _, _, rfl, rfl, SqT.of hS, atI_nat ev1, ?_⟩
    refine ⟨(by show 1 ≤ sizeLine; decide), fun Z hZ => ?_⟩
    have sZ := same_new (o := .lst [.int 0]) hZ
    refine ⟨_, rfl, _, _, rfl, SqT.of (sZ _ _ hB1), fun Dl hD => ?_⟩
    refine lc_it (walk_enumT (xs := ub)) (fun i H2 => Same (upd H Z (.lst [.int 0])) H2 ∧ H2 Dl = some (.lst ((othL xs j i).map V.int))) ?_ ?_ ?_ ?_
    · exact ⟨same_new hD, upd_same⟩
    · exact fun i H2 _ q => SqT.of (q.1 _ _ (sZ _ _ hB1))
    · rintro i y H2 H3 hi ⟨sm, hl⟩ ⟨T2, i', vr, rfl, hT2, rfl, ei, er⟩
      obtain rfl : V.int (i : Nat) = i' := Option.some.inj ei
      have hix : i < xs.length := by omega
      obtain ⟨dr, e1, ar⟩ := aB.get er
      rw [List.getElem?_map, List.getElem?_eq_getElem hix] at e1
      cases e1
      obtain ⟨R, rfl, nR, hR⟩ := row_of ar
      have sT : Same (upd H Z (.lst [.int 0])) (upd H2 T2 (.tup [.int (i : Nat), .ref R])) := Same.tr sm (same_new hT2)
      have nDT : Dl ≠ T2 := ne_of_none hl hT2
      have hl3 : (upd H2 T2 (.tup [.int (i : Nat), .ref R])) Dl = some (.lst ((othL xs j i).map V.int)) := by
        rw [upd_ne nDT]
        exact hl
      refine ⟨_, _, rfl, SqT.of upd_same, rfl, _, _, rfl, _, _, rfl, rfl, rfl, ?_⟩
      refine ⟨_, rfl, _, rfl, rfl, _, rfl, ?_⟩
      by_cases hij : i = j
      · rw [decide_eq_true (show V.int ((i : Nat) : Int) = V.int ((j : Nat) : Int) by rw [hij])]
        refine iteF ⟨sT, ?_⟩
        rw [hl3, othL_succ, if_pos hij, List.append_nil]
      · rw [decide_eq_false (show ¬ V.int ((i : Nat) : Int) = V.int ((j : Nat) : Int) from fun z => hij (by have := V.int.inj z; omega))]
        refine iteT ⟨_, rfl, R, _, _, _, rfl, rfl, SqT.of (sT _ _ (sZ _ _ hR)), rfl, _, hl3, ?_, ?_, ?_⟩
        · rw [List.length_map]
          have := othL_len xs j i
          exact small6 (by omega)
        · intro b u e
          rw [upd_ne (ne_of_none e hD)]
          exact sT _ _ e
        · rw [upd_same, othL_succ, if_neg hij, List.getElem?_eq_getElem hix, List.map_append]
          rfl
    · rintro H2 ⟨s2, hl⟩
      rw [lub] at hl
      have hlo := othL_len xs j xs.length
      refine ⟨_, _, _, _, rfl, rfl, s2 _ _ upd_same, hl, (by rw [List.length_map]; show 1 + _ ≤ _; exact Nat.le_of_lt (small6 (by omega))), fun p9 hp9 => ?_⟩
      refine ⟨_, (0 : Int) :: othL xs j xs.length, rfl, SqL.of upd_same, (by simp), fun tp ht1 ht2 => ?_⟩
      obtain rfl : tp = topM xs j := top_is (fun n hn => (othL_mem xs j _ n hn).elim fun y hy => hy.2 ▸ h0 y hy.1) ht1 ht2
      have sm := Same.tr sZ (Same.tr s2 (same_new (o := .lst ([.int 0] ++ (othL xs j xs.length).map V.int)) hp9))
      refine ⟨_, rfl, _, rfl, _, rfl, _, rfl, v, x.o, x.l, topM xs j, rfl, fun H3 s3 => ?_⟩
      have sm3 : Same H H3 := Same.tr sm s3
      have hm3 := sm3 _ _ hm
      unfold afterM at k
      refine ⟨_, rfl, ?_⟩
      refine ite2 (fun hb => ?_) (fun hb => ?_)
      · rw [if_pos hb] at k
        refine seq_asg_tv (.int (if v = .com then max x.l 3 else x.l)) (fun Q' kk => ?_) ?_
        · refine ⟨_, rfl, rfl, _, rfl, ?_⟩
          rw [show decide (V.str (wS v) = V.str (Str.ofString "commit")) = decide (v = .com) from eqW v .com]
          by_cases hc : v = .com
          · rw [decide_eq_true hc]
            rw [if_pos hc, ← max2] at kk
            exact iteT ⟨_, rfl, _, _, rfl, kk⟩
          · rw [decide_eq_false hc]
            rw [if_neg hc] at kk
            exact iteF ⟨_, rfl, kk⟩
        · refine splice (m := m) (B := B) (row := ⟨x.p, x.o, x.r, if v = .com then max x.l 3 else x.l⟩) rfl rfl hm3 nB (sm3 _ _ hB1) (aB.mono (Same.but sm3)) hj hlen (fun H4 s4 Q' kk => ?_) (fun p H' s' a' => ?_)
          · refine ⟨_, rfl, _, rfl, _, rfl, _, rfl, (by show 4 ≤ sizeLine; decide), fun q hq => ?_⟩
            refine kk q _ (same_new hq) (fun z => by rw [z, s4 _ _ hm3] at hq; cases hq) ?_
            rw [upd_same, ← hp]
            rfl
          · refine ⟨(by show 2 ≤ sizeLine; decide), fun q hq => ?_⟩
            have s'' := Same.tr sm3 s'
            refine k q _ (Same.tr s'' (same_new hq)) (.tup (fun z => by rw [z, s'' _ _ hm] at hq; cases hq) upd_same (.cons (a'.mono (Same.but (same_new hq))) (.cons (.bl _) .nil)))
      · rw [if_neg hb] at k
        refine splice (m := m) (B := B) (row := ⟨x.p + 1, bO v x.o, bR v x.r, bL v x.o x.r x.l⟩) rfl rfl hm3 nB (sm3 _ _ hB1) (aB.mono (Same.but sm3)) hj hlen (fun H4 s4 Q' kk => ?_) (fun p H' s' a' => ?_)
        · refine ⟨_, rfl, _, _, rfl, rfl, (by show 1 ≤ sizeLine; decide), fun q1 hq1 => ?_⟩
          have s5 := same_new (o := .tup [.int ((p : Int) + 1)]) hq1
          refine ⟨_, rfl, _, rfl, _, rfl, _, rfl, v, x.o, x.r, x.l, rfl, fun q2 H5 nq2 s6 hq2 => ?_⟩
          refine cat_any (m := m) (a := q1) (b := q2) (s6 _ _ upd_same) hq2 (fun z => by rw [z, s4 _ _ hm3] at hq1; cases hq1) (fun z => by rw [z, s5 _ _ (s4 _ _ hm3)] at nq2; cases nq2) (s6 _ _ (s5 _ _ (s4 _ _ hm3))) (by show 1 + 3 ≤ sizeLine; decide) (fun p3 H6 n3 s7 h3 => ?_)
          refine kk p3 _ (Same.tr s5 (Same.tr s6 s7)) n3 ?_
          rw [h3, ← hp]
          rfl
        · refine ⟨(by show 2 ≤ sizeLine; decide), fun q hq => ?_⟩
          have s'' := Same.tr sm3 s'
          refine k q _ (Same.tr s'' (same_new hq)) (.tup (fun z => by rw [z, s'' _ _ hm] at hq; cases hq) upd_same (.cons (a'.mono (Same.but (same_new hq))) (.cons (.bl _) .nil)))
end
end C81

set_option Elab.async false
set_option maxRecDepth 100000
set_option maxHeartbeats 4000000
set_option linter.all false
namespace C81
open PySem L2 My M78

/-- what holds of a row of the script sc at every state that can be reached -/
def RI (sc : List Wd) (x : Row) : Prop := ∃ p : Nat, x.p = (p : Int) ∧ p ≤ sc.length ∧ x.o = (flg sc p).1 ∧ x.r = (flg sc p).2 ∧ 0 ≤ x.l ∧ x.l ≤ 4 ∧ (x.o = false → x.l = restL x.r)
/-- the four kinds of another's lock -/
theorem t4 (t : Int) : (¬ 1 ≤ t ∧ ¬ 2 ≤ t ∧ ¬ 3 ≤ t) ∨ (1 ≤ t ∧ ¬ 2 ≤ t ∧ ¬ 3 ≤ t) ∨ (1 ≤ t ∧ 2 ≤ t ∧ ¬ 3 ≤ t) ∨ (1 ≤ t ∧ 2 ≤ t ∧ 3 ≤ t) := by omega
theorem lt3 (t : Int) : (2 < t) = (3 ≤ t) := propext (by omega)
theorem lt2' (t : Int) : (1 < t) = (2 ≤ t) := propext (by omega)
theorem lt1 (t : Int) : (0 < t) = (1 ≤ t) := propext (by omega)
theorem l5 {l : Int} (h0 : 0 ≤ l) (h4 : l ≤ 4) : l = 0 ∨ l = 1 ∨ l = 2 ∨ l = 3 ∨ l = 4 := by omega
theorem after_eq {v : Wd} {x : Row} {t : Int} (h0 : 0 ≤ x.l) (h4 : x.l ≤ 4) (hr : x.o = false → x.l = restL x.r) (ok : okW v x.o x.r = true) : afterM v x t = triedM v x t := by
  obtain ⟨p, o, r, l⟩ := x
  dsimp only at h0 h4 hr ok
  cases o
  · have hl := hr rfl
    subst hl
    clear hr h0 h4
    rcases t4 t with ⟨a, b, c⟩ | ⟨a, b, c⟩ | ⟨a, b, c⟩ | ⟨a, b, c⟩ <;> cases v <;> cases r <;> first | (exfalso; revert ok; decide) | (
      clear ok
      simp [afterM, triedM, refM, isOp, isEn, isRs, isRsw, openL, workL, endL, bO, bR, bL, leastM, restL, lt3, lt2', lt1, a, b, c] <;> first | rfl | decide | omega)
  · clear hr
    rcases l5 h0 h4 with rfl | rfl | rfl | rfl | rfl <;> clear h0 h4 <;> rcases t4 t with ⟨a, b, c⟩ | ⟨a, b, c⟩ | ⟨a, b, c⟩ | ⟨a, b, c⟩ <;> cases v <;> cases r <;> first | (exfalso; revert ok; decide) | (
      clear ok
      simp [afterM, triedM, refM, isOp, isEn, isRs, isRsw, openL, workL, endL, bO, bR, bL, leastM, restL, lt3, lt2', lt1, a, b, c] <;> first | rfl | decide | omega)
theorem tried_row {v : Wd} {x : Row} {t : Int} (h0 : 0 ≤ x.l) (h4 : x.l ≤ 4) (hr : x.o = false → x.l = restL x.r) (ok : okW v x.o x.r = true) :
    ((triedM v x t).1.p = x.p ∧ (triedM v x t).1.o = x.o ∧ (triedM v x t).1.r = x.r ∨ (triedM v x t).1.p = x.p + 1 ∧ (triedM v x t).1.o = opB v x.o ∧ (triedM v x t).1.r = rdB v x.r) ∧
    0 ≤ (triedM v x t).1.l ∧ (triedM v x t).1.l ≤ 4 ∧ ((triedM v x t).1.o = false → (triedM v x t).1.l = restL (triedM v x t).1.r) := by
  obtain ⟨p, o, r, l⟩ := x
  dsimp only at h0 h4 hr ok
  cases o
  · have hl := hr rfl
    subst hl
    clear hr h0 h4
    rcases t4 t with ⟨a, b, c⟩ | ⟨a, b, c⟩ | ⟨a, b, c⟩ | ⟨a, b, c⟩ <;> cases v <;> cases r <;> first | (exfalso; revert ok; decide) | (
      clear ok
      simp [triedM, isOp, isEn, isRs, isRsw, openL, workL, endL, opB, rdB, restL, a, b, c] <;> first | rfl | decide | omega)
  · clear hr
    rcases l5 h0 h4 with rfl | rfl | rfl | rfl | rfl <;> clear h0 h4 <;> rcases t4 t with ⟨a, b, c⟩ | ⟨a, b, c⟩ | ⟨a, b, c⟩ | ⟨a, b, c⟩ <;> cases v <;> cases r <;> first | (exfalso; revert ok; decide) | (
      clear ok
      simp [triedM, isOp, isEn, isRs, isRsw, openL, workL, endL, opB, rdB, restL, a, b, c] <;> first | rfl | decide | omega)
theorem flg_succ {sc : List Wd} {p : Nat} {v : Wd} (h : sc[p]? = some v) : flg sc (p + 1) = (opB v (flg sc p).1, rdB v (flg sc p).2) := by
  show (match sc[p]? with | some v => (opB v (flg sc p).1, rdB v (flg sc p).2) | none => flg sc p) = _
  rw [h]
theorem RI.step {sc : List Wd} {x : Row} {p : Nat} {v : Wd} {t : Int} (h : RI sc x) (ok : okScr sc) (hp : x.p = (p : Int)) (hv : sc[p]? = some v) : afterM v x t = triedM v x t ∧ RI sc (triedM v x t).1 := by
  obtain ⟨p', e, hle, ho, hr, h0, h4, hl⟩ := h
  obtain rfl : p' = p := by omega
  have okv := ok.2 _ _ hv
  rw [← ho, ← hr] at okv
  refine ⟨after_eq h0 h4 hl okv, ?_⟩
  obtain ⟨h1, h2, h3, h5⟩ := tried_row (t := t) h0 h4 hl okv
  have hlt : p' < sc.length := (List.getElem?_eq_some_iff.mp hv).1
  rcases h1 with ⟨a, b, c⟩ | ⟨a, b, c⟩
  · exact ⟨p', a.trans hp, hle, b.trans ho, c.trans hr, h2, h3, h5⟩
  · refine ⟨p' + 1, by rw [a, hp]; rfl, hlt, ?_, ?_, h2, h3, h5⟩
    · rw [b, flg_succ hv, ho]
    · rw [c, flg_succ hv, hr]
/-- what holds of a state -/
def SI (ss : List (List Wd)) (xs : List Row) : Prop := Paired RI ss xs
theorem RI.zero (sc : List Wd) : RI sc row0 := ⟨0, rfl, Nat.zero_le _, rfl, rfl, Int.le_refl _, by decide, fun _ => rfl⟩
theorem SI.zero : ∀ ss : List (List Wd), SI ss (List.replicate ss.length row0)
  | [] => .nil
  | sc :: r => .cons (RI.zero sc) (SI.zero r)
theorem SI.get {ss : List (List Wd)} : ∀ {xs : List Row} {j : Nat} {sc : List Wd} {x : Row}, SI ss xs → ss[j]? = some sc → xs[j]? = some x → RI sc x := by
  intro xs j sc x h e1 e2
  obtain ⟨sc', e3, h2⟩ := paired_get h e2
  rw [e1] at e3
  cases e3
  exact h2
theorem paired_set {α β : Type} {R : α → β → Prop} : ∀ {xs : List α} {ys : List β} {i : Nat} {x : α} {y : β}, Paired R xs ys → xs[i]? = some x → R x y → Paired R xs (ys.set i y)
  | _, _, _, _, _, .nil, e, _ => by simp at e
  | _, _, 0, _, _, .cons h q, e, r => by
    simp at e
    subst e
    exact .cons r q
  | _, _, i + 1, _, _, .cons h q, e, r => .cons h (paired_set (i := i) q (by simpa using e) r)
theorem SI.set {ss : List (List Wd)} {xs : List Row} {j : Nat} {sc : List Wd} {x : Row} (h : SI ss xs) (e1 : ss[j]? = some sc) (r : RI sc x) : SI ss (xs.set j x) := paired_set h e1 r
theorem SI.nonneg {ss : List (List Wd)} {xs : List Row} (h : SI ss xs) : ∀ y ∈ xs, 0 ≤ y.l := fun y hy => by
  obtain ⟨i, hi, e⟩ := List.getElem_of_mem hy
  obtain ⟨sc, _, r⟩ := paired_get h (i := i) (y := y) (by rw [List.getElem?_eq_getElem hi, e])
  obtain ⟨p, _, _, _, _, h0, _⟩ := r
  exact h0
theorem waitL_mem {ss : List (List Wd)} {xs : List Row} : ∀ {n j : Nat}, j ∈ waitL ss xs n → ∃ sc x, j < n ∧ ss[j]? = some sc ∧ xs[j]? = some x ∧ x.p < (sc.length : Int)
  | 0, j, h => nomatch h
  | n + 1, j, h => by
    unfold waitL at h
    rcases List.mem_append.mp h with h | h
    · obtain ⟨sc, x, h1, h2⟩ := waitL_mem h
      exact ⟨sc, x, by omega, h2⟩
    · split at h
      · rename_i s x e1 e2
        split at h
        · obtain rfl := List.mem_singleton.mp h
          exact ⟨s, x, by omega, e1, e2, by assumption⟩
        · cases h
      · cases h
theorem waitL_has {ss : List (List Wd)} {xs : List Row} {j : Nat} {sc : List Wd} {x : Row} (e1 : ss[j]? = some sc) (e2 : xs[j]? = some x) (h : x.p < (sc.length : Int)) : ∀ {n : Nat}, j < n → j ∈ waitL ss xs n
  | 0, hn => absurd hn (by omega)
  | n + 1, hn => by
    unfold waitL
    by_cases e : j = n
    · subst e
      rw [e1, e2]
      exact List.mem_append.mpr (.inr (by dsimp only; rw [if_pos h]; exact List.mem_singleton.mpr rfl))
    · exact List.mem_append.mpr (.inl (waitL_has e1 e2 h (by omega)))
end C81

set_option Elab.async false
set_option maxRecDepth 100000
set_option maxHeartbeats 4000000
set_option linter.all false
namespace C81
open PySem L2 My M78
abbrev sScript : Stmt := top 41
abbrev nScript : List Str := ["_law_state", "_law_many", "_law_found", "_law_opened", "_law_reads", "_law_usual", "_law_upto", "_law_k", "_law_some", "_law_word"]
theorem scScript : FnScope nScript ["_law_state", "_law_many"] (defScope sScript) := ⟨rfl, rfl, rfl, by decide +kernel, rfl, by decide +kernel, by decide +kernel⟩

def wV (ws : List Wd) : List V := ws.map fun v => V.str (wS v)
theorem flat_words (ws : List Wd) : (wV ws).all flatV = true := List.all_eq_true.mpr fun x hx => by
  obtain ⟨v, _, rfl⟩ := List.mem_map.mp hx
  rfl
theorem eqV_w (v u : Wd) : eqV (.str (wS v)) (.str (wS u)) = decide (v = u) := by cases v <;> cases u <;> decide +kernel
theorem in_words {u : Wd} {ws : List Wd} (h : inV (.str (wS u)) (wV ws) = true) : u ∈ ws := by
  obtain ⟨y, hy, e⟩ := List.any_eq_true.mp h
  obtain ⟨v, hv, rfl⟩ := List.mem_map.mp hy
  rw [eqV_w] at e
  exact of_decide_eq_true e ▸ hv
def someW (o r : Bool) : List Wd := [.rea, .wri, if r then .sto else .sta] ++ (if o then [.com, .rol, .rea, .wri, .com] else [.beg, .beg, .imm, .exc])
theorem some_ok {v : Wd} {o r : Bool} (h : v ∈ someW o r) : okW v o r = true := by
  revert h
  cases o <;> cases r <;> cases v <;> decide
theorem bO_is (v : Wd) (o : Bool) : bO v o = opB v o := by cases v <;> cases o <;> rfl
theorem bR_is (v : Wd) (r : Bool) : bR v r = rdB v r := by cases v <;> cases r <;> rfl
theorem flg_app (sc ys : List Wd) : ∀ {n : Nat}, n ≤ sc.length → flg (sc ++ ys) n = flg sc n
  | 0, _ => rfl
  | n + 1, h => by
    show (match (sc ++ ys)[n]? with | some v => (opB v (flg (sc ++ ys) n).1, rdB v (flg (sc ++ ys) n).2) | none => flg (sc ++ ys) n) = (match sc[n]? with | some v => (opB v (flg sc n).1, rdB v (flg sc n).2) | none => flg sc n)
    rw [List.getElem?_append_left (by omega), flg_app sc ys (by omega)]
def okAll (sc : List Wd) : Prop := ∀ n v, sc[n]? = some v → okW v (flg sc n).1 (flg sc n).2 = true
theorem okAll.snoc {sc : List Wd} {v : Wd} (h : okAll sc) (hv : okW v (flg sc sc.length).1 (flg sc sc.length).2 = true) : okAll (sc ++ [v]) := fun n u e => by
  by_cases hn : n < sc.length
  · rw [List.getElem?_append_left hn] at e
    rw [flg_app sc [v] (by omega)]
    exact h n u e
  · have : n = sc.length := by
      have := (List.getElem?_eq_some_iff.mp e).1
      simp at this
      omega
    subst this
    rw [flg_app sc [v] (Nat.le_refl _)]
    simp at e
    subst e
    exact hv
theorem at_words {m : Addr} {H : Hp} : ∀ ws : List Wd, AtAll m H (wV ws) (scE ws)
  | [] => .nil
  | v :: r => .cons (.str _) (at_words r)
section
variable {P : Program} {w : World} {K : PySem.W.Frag} {mg : Str → Option Value} {base : Heap}

def spScript : Sp := fun vs H Q _ => ∃ (st c : Addr) (ns : List Int) (n : Nat), vs = [.ref st, .int (n : Int)] ∧ Drw H st c ns ∧ ns.length ≤ 63 ∧ n ≤ 8 ∧
  ∀ (sc : List Wd) (q : Addr) (H' : Hp), okScr sc → sc.length ≤ n → H q = none → H' q = some (.tup (wV sc)) → Drw H' st c ns → But st H H' → Q (.ref q) H'
theorem pr_script (D : Df K mg "_law_script" sScript ["_law_state", "_law_many"]) (T : Tx mg) (T2 : Ty mg) (TR : mg "range" = none) (TM : mg "min" = none) (PT : Pr P w K mg base 2 "_law_take" ["_law_state", "_law_many"] spTake) (PO : Pr P w K mg base 3 "_law_one" ["_law_state", "_law_things"] (spOne K)) :
    Pr P w K mg base 4 "_law_script" ["_law_state", "_law_many"] spScript := by
  refine D.pr scScript (fun vs H Q E h => ?_) (fun f cdv A outer s H vs Q E hr h => ?_)
  · obtain ⟨st, c, ns, n, rfl, _⟩ := h
    rfl
  · obtain ⟨st, c, ns, n, rfl, dr, hns, hn8, k⟩ := h
    have nd := scScript.nd
    have hr2 := hr.mono (show 2 ≤ 3 by decide)
    refine ⟨_, (pss_cons (ps_par3 (by rfl) nd (i := 2) (j := 3) (l := 4) rfl rfl rfl (by decide) (by decide) (by decide) rfl rfl rfl (pa_cons (pe_lst pa_nil) (pa_cons pe_bl (pa_cons pe_bl pa_nil))) (by rfl))
      (pss_cons (ps_asg (pe_callP PO hr (by rfl) (pa_cons (pv 0) (pa_cons (pe_lst (pa_cons (pe_tup (pa_cons pe_str (pa_cons pe_str (pa_cons pe_str (pa_cons pe_str pa_nil))))) (pa_cons (pe_tup (pa_cons pe_str (pa_cons pe_str (pa_cons pe_str pa_nil)))) (pa_cons (pe_tup (pa_cons pe_str (pa_cons pe_str pa_nil))) (pa_cons (pe_tup (pa_cons pe_str (pa_cons pe_str (pa_cons pe_str pa_nil)))) (pa_cons (pe_tup (pa_cons pe_str (pa_cons pe_str (pa_cons pe_str pa_nil)))) (pa_cons (pe_tup (pa_cons pe_str (pa_cons pe_str (pa_cons pe_str pa_nil)))) pa_nil))))))) pa_nil))) (pg_name (i := 5) nd rfl (Or.inl rfl)))
      (pss_cons (ps_asg (pe_callP PT hr2 (by rfl) (pa_cons (pv 0) (pa_cons (pe_op op_mul pe_int (pe_callB call_len (by rfl) T.len PySem.boot_len (pa_cons (pv 5) pa_nil))) pa_nil))) (pg_name (i := 6) nd rfl (Or.inl rfl)))
      (pss_cons (ps_for PassesOwn.never rfl (pi_range1 rfl TR (pa_cons (pe_op op_sub (pv 1) (pe_op op_mul (pe_callP PT hr2 (by rfl) (pa_cons (pv 0) (pa_cons pe_int pa_nil))) (pe_callTy call_int1 (by rfl) T.int (by decide +kernel) (pa_cons (pe_cmpR op_gt (pv 1) pe_int (nomark _)) pa_nil)))) pa_nil)) (pg_name (i := 7) nd rfl (Or.inl rfl))
        (pss_cons (ps_asg (pe_lst (pa_cons pe_str (pa_cons pe_str (pa_cons (pe_ix ix_tup (pe_tup (pa_cons pe_str (pa_cons pe_str pa_nil))) (pe_callTy call_int1 (by rfl) T.int (by decide +kernel) (pa_cons (pv 4) pa_nil)) (fun _ _ => rfl)) pa_nil)))) (pg_name (i := 8) nd rfl (Or.inl rfl)))
        (Evl.pss_cut (ps_if (pt_val (pv 3))
          (pss_one (ps_asg (pe_op op_cat (pv 8) (pe_lst (pa_cons pe_str (pa_cons pe_str (pa_cons pe_str (pa_cons pe_str (pa_cons pe_str pa_nil))))))) (pg_name (i := 8) nd rfl (Or.inl rfl))))
          (pss_one (ps_asg (pe_op op_cat (pv 8) (pe_lst (pa_cons pe_str (pa_cons pe_str (pa_cons pe_str (pa_cons pe_str pa_nil)))))) (pg_name (i := 8) nd rfl (Or.inl rfl)))))
        (pss_cons (ps_asg (pe_callP PO hr (by rfl) (pa_cons (pv 0) (pa_cons (pv 8) pa_nil))) (pg_name (i := 9) nd rfl (Or.inl rfl)))
        (Evl.pss_cut (ps_if (PW.pt (pw_and (pt_cmpR op_lt (pv 7) (pe_callB (call_min2 rfl) (by rfl) TM (by decide +kernel) (pa_cons (pv 6) (pa_cons (pe_callB call_len (by rfl) T.len PySem.boot_len (pa_cons (pv 5) pa_nil)) pa_nil))) (nomark _)) (pw_and1 (pt_cmpR op_in_seq (pe_ix ix_tup (pv 5) (pv 7) (fun _ _ => rfl)) (pv 8) (by rfl)))))
          (pss_one (ps_asg (pe_ix ix_tup (pv 5) (pv 7) (fun _ _ => rfl)) (pg_name (i := 9) nd rfl (Or.inl rfl))))
          pss_nil)
        (pss_cons (ps_expr (pe_bm PySem.F.plainAttrs_list PySem.F.slot_list_append PySem.F.type_list_append mt_append (pv 2) (pa_cons (pv 9) pa_nil)))
        (pss_cons (ps_asg (pe_and (pe_cmpR op_notIn_seq (pv 9) (pe_tup (pa_cons pe_str (pa_cons pe_str pa_nil))) (by rfl)) (pe_one (pe_or (pv 3) (pe_one (pe_cmpR op_in_seq (pv 9) (pe_tup (pa_cons pe_str (pa_cons pe_str (pa_cons pe_str pa_nil)))) (by rfl)))))) (pg_name (i := 3) nd rfl (Or.inl rfl)))
        (pss_one (ps_asg (pe_and (pe_cmpR op_ne (pv 9) pe_str (nomark _)) (pe_one (pe_or (pv 4) (pe_one (pe_cmpR op_eq (pv 9) pe_str (nomark _)))))) (pg_name (i := 4) nd rfl (Or.inl rfl)))))))))))
      (pss_one (ps_ret (pe_callTy call_tuple_of (by rfl) T2.tuple (by decide +kernel) (pa_cons (pv 2) pa_nil)))))))), ?_⟩
    refine ⟨(by show 0 ≤ sizeLine; decide), fun F hF => ⟨_, _, _, rfl, ?_⟩⟩
    have sF := same_new (o := HO.lst []) hF
    have eF : upd H F (.lst []) F = some (.lst []) := upd_same
    generalize upd H F (.lst []) = H0 at sF eF ⊢
    have dr0 := dr.same sF
    have nF : F ≠ st := dr.nst hF
    have b0 : But st H H0 := Same.but sF
    -- usual
    refine ⟨_, rfl, (by show 4 ≤ sizeLine; decide), fun T1 nT1 => ?_⟩
    generalize hT1 : upd H0 T1 _ = H1
    have s1 : Same H0 H1 := hT1 ▸ Same.new nT1
    have e1 : H1 T1 = some (.tup [.str (Str.ofString "begin"), .str (Str.ofString "read"), .str (Str.ofString "write"), .str (Str.ofString "commit")]) := hT1 ▸ upd_same
    clear hT1
    refine ⟨(by show 3 ≤ sizeLine; decide), fun T3 nT3 => ?_⟩
    generalize hT3 : upd H1 T3 _ = H3
    have s3 : Same H1 H3 := hT3 ▸ Same.new nT3
    have e3 : H3 T3 = some (.tup [.str (Str.ofString "immediate"), .str (Str.ofString "write"), .str (Str.ofString "commit")]) := hT3 ▸ upd_same
    clear hT3
    refine ⟨(by show 2 ≤ sizeLine; decide), fun T4 nT4 => ?_⟩
    generalize hT4 : upd H3 T4 _ = H4
    have s4 : Same H3 H4 := hT4 ▸ Same.new nT4
    have e4 : H4 T4 = some (.tup [.str (Str.ofString "write"), .str (Str.ofString "read")]) := hT4 ▸ upd_same
    clear hT4
    refine ⟨(by show 3 ≤ sizeLine; decide), fun T5 nT5 => ?_⟩
    generalize hT5 : upd H4 T5 _ = H5
    have s5 : Same H4 H5 := hT5 ▸ Same.new nT5
    have e5 : H5 T5 = some (.tup [.str (Str.ofString "start"), .str (Str.ofString "begin"), .str (Str.ofString "write")]) := hT5 ▸ upd_same
    clear hT5
    refine ⟨(by show 3 ≤ sizeLine; decide), fun T6 nT6 => ?_⟩
    generalize hT6 : upd H5 T6 _ = H6
    have s6 : Same H5 H6 := hT6 ▸ Same.new nT6
    have e6 : H6 T6 = some (.tup [.str (Str.ofString "begin"), .str (Str.ofString "read"), .str (Str.ofString "commit")]) := hT6 ▸ upd_same
    clear hT6
    refine ⟨(by show 3 ≤ sizeLine; decide), fun T7 nT7 => ?_⟩
    generalize hT7 : upd H6 T7 _ = H7
    have s7 : Same H6 H7 := hT7 ▸ Same.new nT7
    have e7 : H7 T7 = some (.tup [.str (Str.ofString "exclusive"), .str (Str.ofString "read"), .str (Str.ofString "commit")]) := hT7 ▸ upd_same
    clear hT7
    refine ⟨(by show 6 ≤ sizeLine; decide), fun T8 nT8 => ?_⟩
    generalize hT8 : upd H7 T8 _ = H8
    have s8 : Same H7 H8 := hT8 ▸ Same.new nT8
    have e8 : H8 T8 = some (.lst [.ref T1, .ref T3, .ref T4, .ref T5, .ref T6, .ref T7]) := hT8 ▸ upd_same
    clear hT8
    have s78 := s8
    have s68 := Same.tr s7 s78
    have s58 := Same.tr s6 s68
    have s48 := Same.tr s5 s58
    have s38 := Same.tr s4 s48
    have s18 := Same.tr s3 s38
    have s08 := Same.tr s1 s18
    have dr8 := dr0.same s08
    have q1 : ∀ x, x ∈ [V.ref T1, .ref T3, .ref T4, .ref T5, .ref T6, .ref T7] → ∃ u us, x = .ref u ∧ u ≠ st ∧ H8 u = some (.tup (wV us)) ∧ 0 < us.length ∧ us.length ≤ 4 := by
      intro x hx
      simp only [List.mem_cons, List.not_mem_nil, or_false] at hx
      rcases hx with rfl | rfl | rfl | rfl | rfl | rfl
      · exact ⟨T1, [.beg, .rea, .wri, .com], rfl, dr0.nst nT1, s18 _ _ e1, by decide, by decide⟩
      · exact ⟨T3, [.imm, .wri, .com], rfl, (dr0.same s1).nst nT3, s38 _ _ e3, by decide, by decide⟩
      · exact ⟨T4, [.wri, .rea], rfl, (dr0.same (Same.tr s1 s3)).nst nT4, s48 _ _ e4, by decide, by decide⟩
      · exact ⟨T5, [.sta, .beg, .wri], rfl, (dr0.same (Same.tr s1 (Same.tr s3 s4))).nst nT5, s58 _ _ e5, by decide, by decide⟩
      · exact ⟨T6, [.beg, .rea, .com], rfl, (dr0.same (Same.tr s1 (Same.tr s3 (Same.tr s4 s5)))).nst nT6, s68 _ _ e6, by decide, by decide⟩
      · exact ⟨T7, [.exc, .rea, .com], rfl, (dr0.same (Same.tr s1 (Same.tr s3 (Same.tr s4 (Same.tr s5 s6))))).nst nT7, s78 _ _ e7, by decide, by decide⟩
    refine ⟨st, c, T8, ns, _, rfl, dr8, hns, (dr0.same (Same.tr s1 (Same.tr s3 (Same.tr s4 (Same.tr s5 (Same.tr s6 s7)))))).nst nT8, .inl (SqL.of e8), (by show 0 < 6; decide), (by show 6 ≤ 10000; decide), fun x H9 hx dr9 b9 => ?_⟩
    obtain ⟨u, us, rfl, nu, hu8, hu1, hu4⟩ := q1 x hx
    have hu9 := b9 _ _ hu8 nu
    have hF9 : H9 F = some (.lst []) := b9 _ _ (s08 _ _ eF) nF
    have bb9 : But st H H9 := (b0.tr' s08).trans b9
    have lus : (wV us).length = us.length := List.length_map ..
    -- upto
    refine ⟨_, rfl, _, rfl, _, _, rfl, (Or.inr ⟨_, SqT.of hu9, rfl⟩), _, _, rfl, rfl, .inl ⟨by decide, by decide⟩, ?_⟩
    refine ⟨st, c, ns, _, rfl, dr9, hns, (by rw [lus]; omega), (by rw [lus]; omega), fun up H10 hup0 hup1 dr10 b10 => ?_⟩
    have hu10 := b10 _ _ hu9 nu
    have hF10 := b10 _ _ hF9 nF
    have bb10 : But st H H10 := bb9.trans b10
    -- the number of turns
    refine ⟨_, rfl, _, rfl, st, c, ns, 3, rfl, dr10, hns, (by decide), (by decide), fun d3 H11 hd0 hd3 dr11 b11 => ?_⟩
    have hu11 := b11 _ _ hu10 nu
    have hF11 := b11 _ _ hF10 nF
    have bb11 : But st H H11 := bb10.trans b11
    refine ⟨_, rfl, _, _, rfl, rfl, .inr ⟨_, rfl, _, _, rfl, rfl, .inl ⟨by omega, by omega⟩, _, _, rfl, rfl, _, rfl, ?_⟩⟩
    generalize hN : ((n : Nat) : Int) - d3 * (if decide (2 < ((n : Nat) : Int)) = true then 1 else 0) = N
    have hN8 : N ≤ 8 := by
      subst hN
      split <;> omega
    have hNn : N ≤ (n : Int) := by
      subst hN
      split <;> omega
    have hN0 : -10 ≤ N := by
      subst hN
      split <;> omega
    refine ⟨(by omega), (by omega), ?_⟩
    refine for_range (lo := 0) (n := N.toNat) (fun i σ H2 => But st H H2 ∧ Drw H2 st c ns ∧ H2 u = some (.tup (wV us)) ∧ ∃ (sc : List Wd) (v7 v8 v9 : Option V), sc.length = i ∧ okAll sc ∧ H2 F = some (.lst (wV sc)) ∧
      σ = [some (.ref st), some (.int (n : Int)), some (.ref F), some (.bl (flg sc i).1), some (.bl (flg sc i).2), some (.ref u), some (.int up), v7, v8, v9]) ?_ ?_ ?_
    · exact ⟨bb11, dr11, hu11, [], _, _, _, rfl, fun n v e => by simp at e, hF11, rfl⟩
    · rintro i σ H2 hi ⟨bH, drH, huH, sc, v7, v8, v9, hsc, hok, hFH, rfl⟩
      generalize ho : (flg sc i).1 = o
      generalize hrd : (flg sc i).2 = r
      rw [show (0 : Int) + (i : Nat) = ((i : Nat) : Int) by omega]
      -- some
      have hat : atI [V.str (Str.ofString "start"), .str (Str.ofString "stop")] (if r = true then 1 else 0) = some (.str (wS (if r then .sto else .sta))) := by cases r <;> rfl
      refine ⟨(by show 2 ≤ sizeLine; decide), fun P1 nP1 => ?_⟩
      generalize hP1 : upd H2 P1 _ = H3
      have t1 : Same H2 H3 := hP1 ▸ Same.new nP1
      have f1 : H3 P1 = some (.tup [.str (Str.ofString "start"), .str (Str.ofString "stop")]) := hP1 ▸ upd_same
      clear hP1
      refine ⟨_, rfl, .inr ⟨_, rfl, _, _, _, _, rfl, rfl, SqT.of f1, hat, ?_⟩⟩
      refine ⟨(by show 3 ≤ sizeLine; decide), fun P2 nP2 => ?_⟩
      generalize hP2 : upd H3 P2 _ = H4
      have t2 : Same H3 H4 := hP2 ▸ Same.new nP2
      have f2 : H4 P2 = some (.lst (wV [.rea, .wri, if r then .sto else .sta])) := hP2 ▸ upd_same
      clear hP2
      have t12 : Same H2 H4 := Same.tr t1 t2
      refine ⟨fun σ' H5 => Same H2 H5 ∧ ∃ P3, P3 ≠ st ∧ H5 P3 = some (.lst (wV (someW o r))) ∧ σ' = [some (.ref st), some (.int (n : Int)), some (.ref F), some (.bl o), some (.bl r), some (.ref u), some (.int up), some (.int (i : Int)), some (.ref P3), v9], ?_, ?_⟩
      · refine ⟨_, rfl, _, rfl, ?_⟩
        cases o
        · refine iteF ?_
          refine ⟨_, rfl, (by show 4 ≤ sizeLine; decide), fun P4 nP4 => ?_⟩
          generalize hP4 : upd H4 P4 _ = H5
          have t4 : Same H4 H5 := hP4 ▸ Same.new nP4
          have f4 : H5 P4 = some (.lst [.str (Str.ofString "begin"), .str (Str.ofString "begin"), .str (Str.ofString "immediate"), .str (Str.ofString "exclusive")]) := hP4 ▸ upd_same
          clear hP4
          refine ⟨_, _, _, _, rfl, rfl, t4 _ _ f2, f4, (by show 3 + 4 ≤ sizeLine; decide), fun P5 m5 => ?_⟩
          have t5 := Same.tr t12 t4
          exact ⟨Same.tr t5 (same_new m5), P5, (drH.same t5).nst m5, by rw [upd_same]; cases r <;> rfl, rfl⟩
        · refine iteT ?_
          refine ⟨_, rfl, (by show 5 ≤ sizeLine; decide), fun P4 nP4 => ?_⟩
          generalize hP4 : upd H4 P4 _ = H5
          have t4 : Same H4 H5 := hP4 ▸ Same.new nP4
          have f4 : H5 P4 = some (.lst [.str (Str.ofString "commit"), .str (Str.ofString "rollback"), .str (Str.ofString "read"), .str (Str.ofString "write"), .str (Str.ofString "commit")]) := hP4 ▸ upd_same
          clear hP4
          refine ⟨_, _, _, _, rfl, rfl, t4 _ _ f2, f4, (by show 3 + 5 ≤ sizeLine; decide), fun P5 m5 => ?_⟩
          have t5 := Same.tr t12 t4
          exact ⟨Same.tr t5 (same_new m5), P5, (drH.same t5).nst m5, by rw [upd_same]; cases r <;> rfl, rfl⟩
      rintro σ' H5 ⟨t5, P3, nP3, hP3, rfl⟩
      have lsome : (wV (someW o r)).length ≤ 10 ∧ 0 < (wV (someW o r)).length := by cases o <;> cases r <;> decide
      -- word
      refine ⟨_, rfl, _, rfl, st, c, P3, ns, _, rfl, drH.same t5, hns, nP3, .inl (SqL.of hP3), lsome.2, (by omega), fun x H6 hx dr6 b6 => ?_⟩
      obtain ⟨v0, hv0, rfl⟩ := List.mem_map.mp hx
      have hu6 := b6 _ _ (t5 _ _ huH) nu
      have hF6 := b6 _ _ (t5 _ _ hFH) nF
      have hP6 := b6 _ _ hP3 nP3
      have bH6 : But st H H6 := (bH.tr' t5).trans b6
      refine ⟨fun σ' H7 => H7 = H6 ∧ ∃ v ∈ someW o r, σ' = [some (.ref st), some (.int (n : Int)), some (.ref F), some (.bl o), some (.bl r), some (.ref u), some (.int up), some (.int (i : Int)), some (.ref P3), some (.str (wS v))], ?_, ?_⟩
      · refine ⟨_, rfl, _, rfl, _, rfl, _, _, rfl, (Or.inr ⟨_, SqT.of hu6, rfl⟩), _, _, rfl, _, _, rfl, rfl, _, rfl, ?_⟩
        refine ite2 (fun hk => ?_) (fun hk => ⟨rfl, v0, hv0, rfl⟩)
        have hk2 : i < us.length := by
          have := of_decide_eq_true hk
          rw [lus] at this
          split at this <;> omega
        have hat2 : (wV us)[i]? = some (.str (wS us[i])) := by
          unfold wV
          rw [List.getElem?_map, List.getElem?_eq_getElem hk2]
          rfl
        refine ⟨_, rfl, _, rfl, _, _, _, _, rfl, rfl, SqT.of hu6, atI_nat hat2, _, rfl, _, _, rfl, .inl (SqL.of hP6), rfl, flat_words _, _, rfl, ?_⟩
        refine ite2 (fun hin => ?_) (fun hin => ⟨rfl, v0, hv0, rfl⟩)
        exact ⟨_, rfl, _, rfl, _, _, _, _, rfl, rfl, SqT.of hu6, atI_nat hat2, rfl, us[i], in_words hin, rfl⟩
      rintro σ' H7 ⟨rfl, v, hv, rfl⟩
      -- found.append
      refine ⟨_, rfl, .inl ⟨rfl, _, SqL.of hF6⟩, _, rfl, _, _, _, rfl, rfl, hF6, (by show (List.map _ sc).length < sizeLine; rw [List.length_map]; exact small6 (by omega)), ?_⟩
      have dr7 : Drw (upd H7 F (.lst (wV sc ++ [.str (wS v)]))) st c ns := by
        have nc : c ≠ F := ne_of_none dr.1 hF
        obtain ⟨hc, n', v', b', h0', hs⟩ := dr6
        exact ⟨by rw [upd_ne nc]; exact hc, n', v', b', h0', by rw [upd_ne (Ne.symm nF)]; exact hs⟩
      have bH7 : But st H (upd H7 F (.lst (wV sc ++ [.str (wS v)]))) := fun b u' e nb => by
        rw [upd_ne (ne_of_none e hF)]
        exact bH6 b u' e nb
      have hu7 : (upd H7 F (.lst (wV sc ++ [.str (wS v)]))) u = some (.tup (wV us)) := by
        rw [upd_ne (ne_of hu6 hF6 (by intro z; cases z))]
        exact hu6
      have hF7 : (upd H7 F (.lst (wV sc ++ [.str (wS v)]))) F = some (.lst (wV (sc ++ [v]))) := by
        rw [upd_same]
        unfold wV
        rw [List.map_append]
        rfl
      generalize upd H7 F (.lst (wV sc ++ [.str (wS v)])) = H8 at dr7 bH7 hu7 hF7 ⊢
      dsimp only
      refine seq_asg_gv (x := .bl (bO v o)) (Gv.and (fun Q' kk => ?_) (fun H1 s1 => Gv.or (fun Q' kk => ⟨_, rfl, kk _ (Same.rfl' _)⟩) (fun H2 s2 Q' kk => ?_))) ?_
      · refine ⟨_, rfl, (by show 2 ≤ sizeLine; decide), fun tp htp => ?_⟩
        have sx := same_new (o := .tup [.str (Str.ofString "commit"), .str (Str.ofString "rollback")]) htp
        have ex := upd_same (H := H8) (a := tp) (o := .tup [.str (Str.ofString "commit"), .str (Str.ofString "rollback")])
        refine ⟨_, _, rfl, .inr (SqT.of ex), rfl, rfl, ?_⟩
        rw [in_en v]
        exact kk _ sx
      · refine ⟨_, rfl, (by show 3 ≤ sizeLine; decide), fun tp htp => ?_⟩
        have sx := same_new (o := .tup [.str (Str.ofString "begin"), .str (Str.ofString "immediate"), .str (Str.ofString "exclusive")]) htp
        have ex := upd_same (H := H2) (a := tp) (o := .tup [.str (Str.ofString "begin"), .str (Str.ofString "immediate"), .str (Str.ofString "exclusive")])
        refine ⟨_, _, rfl, .inr (SqT.of ex), rfl, rfl, ?_⟩
        rw [in_op v]
        exact kk _ sx
      intro H12 s12
      dsimp only [gName]
      refine asg_gv (x := .bl (bR v r)) (Gv.and (fun Q' kk => ?_) (fun H1 s1 => Gv.or (fun Q' kk => ⟨_, rfl, kk _ (Same.rfl' _)⟩) (fun H2 s2 Q' kk => ?_))) ?_
      · refine ⟨_, rfl, rfl, ?_⟩
        rw [show decide (V.str (wS v) = V.str (Str.ofString "stop")) = decide (v = .sto) from eqW v .sto]
        exact kk _ (Same.rfl' _)
      · refine ⟨_, rfl, rfl, ?_⟩
        rw [show decide (V.str (wS v) = V.str (Str.ofString "start")) = decide (v = .sta) from eqW v .sta]
        exact kk _ (Same.rfl' _)
      intro H13 s13
      have s14 : Same H8 H13 := Same.tr s12 s13
      have hfl : flg (sc ++ [v]) (i + 1) = (bO v o, bR v r) := by
        have := flg_succ (sc := sc ++ [v]) (p := i) (v := v) (by rw [← hsc]; simp)
        rw [this, flg_app sc [v] (by omega), ho, hrd, bO_is, bR_is]
      refine ⟨bH7.tr' s14, dr7.same s14, s14 _ _ hu7, sc ++ [v], some (.int (i : Int)), some (.ref P3), some (.str (wS v)), by rw [List.length_append, hsc]; rfl, hok.snoc (by rw [hsc, ho, hrd]; exact some_ok hv), s14 _ _ hF7, ?_⟩
      rw [hfl]
      rfl
    · rintro σ H2 ⟨bH, drH, huH, sc, v7, v8, v9, hsc, hok, hFH, rfl⟩
      refine ⟨_, rfl, _, _, rfl, .inl ⟨SqL.of hFH, fun q hq => ?_⟩⟩
      have nq := drH.nst hq
      exact k sc q _ ⟨by omega, hok⟩ (by omega) (bH.free nq hq) upd_same (drH.new hq) (bH.new hq)
end
end C81

set_option Elab.async false
set_option maxRecDepth 100000
set_option maxHeartbeats 4000000
set_option linter.all false
namespace C81
open PySem L2 My M78
abbrev sScripts : Stmt := top 42
abbrev nScripts : List Str := ["_law_state", "_law_most", "_law_many", "_law_k"]
theorem scScripts : FnScope nScripts ["_law_state", "_law_most", "_law_many"] (defScope sScripts) := ⟨rfl, rfl, rfl, by decide +kernel, rfl, by decide +kernel, by decide +kernel⟩
section
variable {P : Program} {w : World} {K : PySem.W.Frag} {mg : Str → Option Value} {base : Heap}

def spScripts : Sp := fun vs H Q _ => ∃ (st c : Addr) (ns : List Int) (most n : Nat), vs = [.ref st, .int (most : Int), .int (n : Int)] ∧ Drw H st c ns ∧ ns.length ≤ 63 ∧ n ≤ 8 ∧ 0 < most ∧ most ≤ 4 ∧
  ∀ (ss : List (List Wd)) (q : Addr) (H' : Hp), 1 ≤ ss.length → ss.length ≤ most → (∀ sc ∈ ss, okScr sc ∧ sc.length ≤ n) → At st H' (.ref q) (scD ss) → Drw H' st c ns → But st H H' → Q (.ref q) H'
theorem pr_scripts (D : Df K mg "_law_scripts" sScripts ["_law_state", "_law_most", "_law_many"]) (T2 : Ty mg) (TR : mg "range" = none) (PT : Pr P w K mg base 2 "_law_take" ["_law_state", "_law_many"] spTake) (PS : Pr P w K mg base 4 "_law_script" ["_law_state", "_law_many"] spScript) :
    Pr P w K mg base 5 "_law_scripts" ["_law_state", "_law_most", "_law_many"] spScripts := by
  refine D.pr scScripts (fun vs H Q E h => ?_) (fun f cdv A outer s H vs Q E hr h => ?_)
  · obtain ⟨st, c, ns, most, n, rfl, _⟩ := h
    rfl
  · obtain ⟨st, c, ns, most, n, rfl, dr, hns, hn8, hm0, hm4, k⟩ := h
    have nd := scScripts.nd
    have hr2 := hr.mono (show 2 ≤ 4 by decide)
    refine ⟨_, (pss_one (ps_ret (pe_callTy call_tuple_of (by rfl) T2.tuple (by decide +kernel) (pa_cons (pe_lc (own := [("_law_k", 3)]) (g := gName 3) (tt := tYes) (by rfl) nd (pi_range1 rfl TR (pa_cons (pe_op op_add pe_int (pe_callP PT hr2 (by rfl) (pa_cons (pv 0) (pa_cons (pv 1) pa_nil)))) pa_nil))
  (blkOk_by (own := [("_law_k", 3)]) (N := nScripts) (sc := defScope sScripts) (by decide +kernel))
  (fun _ _ _ _ _ => pg_name (i := 3) nd rfl (Or.inl rfl) (Or.inr rfl)) (fun _ _ _ _ _ => pts_nil)
  (fun _ _ _ _ _ => (pe_callP PS hr (by rfl) (pa_cons (pv 0) (pa_cons (pv 2) pa_nil))))) pa_nil)))), ?_⟩
    refine ⟨_, rfl, _, rfl, st, c, ns, most, rfl, dr, hns, (by omega), (by omega), fun d H1 hd0 hd1 dr1 b1 => ?_⟩
    refine ⟨_, _, rfl, rfl, _, rfl, (by omega), (by omega), fun Dl hD => ?_⟩
    obtain ⟨o, hst⟩ := dr1.at
    refine lc_range (lo := 0) (n := ((1 : Int) + d).toNat) (fun i H2 => But st H1 H2 ∧ Drw H2 st c ns ∧ ∃ (ss : List (List Wd)) (vs : List V), ss.length = i ∧ (∀ sc ∈ ss, okScr sc ∧ sc.length ≤ n) ∧ Bld st Dl H2 vs (ss.map fun sc => .tuple (scE sc))) ?_ ?_ ?_
    · exact ⟨(But.refl st H1).new hD, dr1.new hD, [], [], rfl, (fun _ h => nomatch h), Bld.start hst hD⟩
    · rintro i H2 hi ⟨b2, dr2, ss, vs, ls, oks, bl⟩
      refine ⟨rfl, ?_⟩
      refine ⟨_, rfl, _, rfl, st, c, ns, n, rfl, dr2, hns, hn8, fun sc q H3 hsc hscn nq hq dr3 b3 => ?_⟩
      have bl3 := bl.but b3
      have nqs : q ≠ st := dr2.nst nq
      have nqD : q ≠ Dl := fun z => by
        rw [z, bl.2.1] at nq
        cases nq
      refine ⟨vs, bl3.2.1, ?_, ?_, ?_, ss ++ [sc], vs ++ [.ref q], by rw [List.length_append, ls]; rfl, ?_, ?_⟩
      · rw [bl.len, List.length_map, ls]
        exact small6 (by omega)
      · intro b u e nb
        rw [upd_ne (ne_of_none e hD)]
        exact b3 _ _ (b2 _ _ e nb) nb
      · obtain ⟨hc, n', v', b', h0', hs⟩ := dr3
        exact ⟨by rw [upd_ne (ne_of_none dr1.1 hD)]; exact hc, n', v', b', h0', by rw [upd_ne (Ne.symm bl.1)]; exact hs⟩
      · intro x hx
        rcases List.mem_append.mp hx with h | h
        · exact oks x h
        · rw [List.mem_singleton.mp h]
          exact ⟨hsc, hscn⟩
      · rw [List.map_append]
        exact bl3.push (.tup nqs hq (at_words sc)) (.tup nqD hq (at_words sc))
    · rintro H2 ⟨b2, dr2, ss, vs, ls, oks, bl⟩
      refine ⟨_, _, rfl, .inl ⟨SqL.of bl.2.1, fun q hq => ?_⟩⟩
      obtain ⟨o2, hst2⟩ := dr2.at
      exact k ss q _ (by omega) (by omega) oks (bl.tup hst2 hq) (dr2.new hq) ((b1.trans b2).new hq)
end
end C81

set_option Elab.async false
set_option maxRecDepth 100000
set_option maxHeartbeats 4000000
set_option linter.all false
namespace C81
open PySem L2 My M78
abbrev sHanded : Stmt := top 51
abbrev nHanded : List Str := ["_law_state", "_law_thing", "_law_parts", "_law_part"]
theorem scHanded : FnScope nHanded ["_law_state", "_law_thing"] (defScope sHanded) := ⟨rfl, rfl, rfl, by decide +kernel, rfl, by decide +kernel, by decide +kernel⟩

mutual
/-- the same thing, each list or tuple in it a list or a tuple -/
inductive Hnd : PyData → PyData → Prop
  | leaf {d : PyData} : lt2 d = false → Hnd d d
  | seq {d d' : PyData} {ds ds' : List PyData} : Sq2 d ds → Sq2 d' ds' → HndAll ds ds' → Hnd d d'
inductive HndAll : List PyData → List PyData → Prop
  | nil : HndAll [] []
  | cons {d d' : PyData} {ds ds' : List PyData} : Hnd d d' → HndAll ds ds' → HndAll (d :: ds) (d' :: ds')
end
theorem HndAll.snoc : ∀ {ds ds' : List PyData} {d d' : PyData}, HndAll ds ds' → Hnd d d' → HndAll (ds ++ [d]) (ds' ++ [d'])
  | _, _, _, _, .nil, h => .cons h .nil
  | _, _, _, _, .cons h q, e => .cons h (HndAll.snoc q e)
theorem HndAll.len : ∀ {ds ds' : List PyData}, HndAll ds ds' → ds'.length = ds.length
  | _, _, .nil => rfl
  | _, _, .cons _ q => by rw [List.length_cons, List.length_cons, HndAll.len q]
theorem leaf_any {m z : Addr} {H H' : Hp} {x : V} {d : PyData} (h : At m H x d) (l : lt2 d = false) : At z H' x d := by
  cases h with
  | non => exact .non
  | bl b => exact .bl b
  | int i => exact .int i
  | str s => exact .str s
  | lst _ _ _ => cases l
  | tup _ _ _ => cases l
theorem lev_sq {n : Nat} {d : PyData} {ds : List PyData} (h : Lev n d) (s : Sq2 d ds) : ∃ n', n = n' + 1 ∧ ds.length ≤ 5000000 ∧ ∀ x, x ∈ ds → Lev n' x := by
  rcases s with rfl | rfl
  · cases h with
    | lst a b => exact ⟨_, rfl, a, b⟩
  · cases h with
    | tup a b => exact ⟨_, rfl, a, b⟩
theorem lt2_sq {d : PyData} (h : lt2 d = true) : ∃ ds, Sq2 d ds := by
  cases d <;> first | exact ⟨_, .inl rfl⟩ | exact ⟨_, .inr rfl⟩ | cases h
section
variable {P : Program} {w : World} {K : PySem.W.Frag} {mg : Str → Option Value} {base : Heap}

def spHanded (n : Nat) : Sp := fun vs H Q _ => ∃ (st c : Addr) (ns : List Int) (x : V) (d : PyData), vs = [.ref st, x] ∧ Drw H st c ns ∧ ns.length ≤ 63 ∧ At st H x d ∧ Lev n d ∧
  ∀ (y : V) (d' : PyData) (H' : Hp), Hnd d d' → (∀ z o, H z = some o → At z H' y d') → Drw H' st c ns → But st H H' → Q y H'
def spH : Nat → Sp
  | 0 => fun _ _ _ _ => False
  | n + 1 => spHanded n
theorem step_handed (D : Df K mg "_law_handed" sHanded ["_law_state", "_law_thing"]) (T : Ty mg) (PT : Pr P w K mg base 2 "_law_take" ["_law_state", "_law_many"] spTake) {n : Nat} (PH : Pr P w K mg base (n + 2) "_law_handed" ["_law_state", "_law_thing"] (spH n)) :
    Pr P w K mg base (n + 3) "_law_handed" ["_law_state", "_law_thing"] (spHanded n) := by
  refine D.pr scHanded (fun vs H Q E h => ?_) (fun f cdv A outer s H vs Q E hr h => ?_)
  · obtain ⟨st, c, ns, x, d, rfl, _⟩ := h
    rfl
  · obtain ⟨st, c, ns, x, d, rfl, dr, hns, ax, lv, k⟩ := h
    have nd := scHanded.nd
    have hr2 := hr.mono (show 2 ≤ n + 2 by omega)
    refine ⟨_, (pss_cons (ps_if (pt_not (pt_val (pe_callB call_isiT (by rfl) T.isinstance (by decide +kernel) (pa_cons (pv 1) (pa_cons (pe_tup (pa_cons (pe_bltn (v := .ty "list") (by rfl) T.list (by decide +kernel) rfl) (pa_cons (pe_bltn (v := .ty "tuple") (by rfl) T.tuple (by decide +kernel) rfl) pa_nil))) pa_nil)))))
        (pss_one (ps_ret (pv 1)))
        pss_nil)
      (pss_cons (ps_setLc (i := 2) (own := [("_law_part", 3)]) (g := gName 3) (tt := tYes) (by rfl) nd rfl rfl (sw_true rfl rfl rfl (by decide +kernel)) (pi_sq (pv 1))
  (blkOk_by (own := [("_law_part", 3)]) (N := nHanded) (sc := defScope sHanded) (by decide +kernel))
  (fun _ _ _ _ _ => pg_name (i := 3) nd rfl (Or.inl rfl) (Or.inr rfl)) (fun _ _ _ _ _ => pts_nil)
  (fun _ _ _ _ _ => (pe_callP PH hr (by rfl) (pa_cons (pv 0) (pa_cons (pv 3) pa_nil)))))
      (pss_one (ps_ret (pe_ix ix_list (pe_lst (pa_cons (pv 2) (pa_cons (pe_callTy call_tuple_of (by rfl) T.tuple (by decide +kernel) (pa_cons (pv 2) pa_nil)) pa_nil))) (pe_callP PT hr2 (by rfl) (pa_cons (pv 0) (pa_cons pe_int pa_nil))) (fun _ _ => rfl)))))), ?_⟩
    refine ⟨_, rfl, (by show 2 ≤ sizeLine; decide), fun tp ntp => ?_⟩
    generalize htp : upd H tp _ = H1
    have stp : Same H H1 := htp ▸ Same.new ntp
    have etp : H1 tp = some (.tup [.ty "list", .ty "tuple"]) := htp ▸ upd_same
    clear htp
    have ax1 := ax.mono (Same.but (m := st) stp)
    refine ⟨_, _, _, _, _, lt2 d, rfl, etp, cls_all ["list", "tuple"], ax1.ty, kit_any ?_, ?_⟩
    · cases ax
      · exact k_NoneType_lt
      · exact k_bool_lt
      · exact k_int_lt
      · exact k_str_lt
      · exact k_list_lt
      · exact k_tuple_lt
    refine ⟨_, rfl, ?_⟩
    cases hlt : lt2 d
    · refine iteT ⟨_, rfl, k x d _ (.leaf hlt) (fun z o _ => leaf_any ax hlt) (dr.same stp) (Same.but stp)⟩
    refine iteF ?_
    obtain ⟨ds, sq⟩ := lt2_sq hlt
    obtain ⟨n', rfl, lds, lev⟩ := lev_sq lv sq
    obtain ⟨a, us, rfl, na, hsq, aus⟩ := sq.at ax1
    have lus : us.length = ds.length := aus.length
    have dr1 := dr.same stp
    refine isq (a := a) (us := us) (fun Q q => ⟨_, rfl, q⟩) hsq (fun J G W hG => fun Dl hD => ?_)
    have nD : Dl ≠ st := dr1.nst hD
    refine lc_it W (fun i H2 => But st H1 H2 ∧ Drw H2 st c ns ∧ ∃ (vs : List V) (es : List PyData), HndAll (ds.take i) es ∧ H2 Dl = some (.lst vs) ∧ AtAll Dl H2 vs es ∧ ∀ z o, H1 z = some o → AtAll z H2 vs es) ?_ ?_ ?_ ?_
    · exact ⟨(But.refl st H1).new hD, dr1.new hD, [], [], .nil, upd_same, .nil, fun _ _ _ => .nil⟩
    · rintro i H2 _ ⟨b2, _⟩
      exact hG _ (fun o e => b2 _ _ e na)
    · rintro i y H9 H2 hi ⟨b2, dr2, vs, es, hes, hl, aD, aZ⟩ ⟨rfl, er⟩
      obtain ⟨de, e1, ae⟩ := aus.get er
      have ld : Lev n' de := lev de (List.mem_of_getElem? e1)
      refine ⟨rfl, ?_⟩
      refine ⟨_, rfl, _, rfl, ?_⟩
      refine ⟨st, c, ns, y, de, rfl, dr2, hns, ae.mono b2, ld, fun y' d' H3 hh hz dr3 b3 => ?_⟩
      obtain ⟨o1, hst1⟩ := dr1.at
      obtain ⟨o2, hst2⟩ := dr2.at
      have aS2 := aZ _ _ hst1
      have hl3 := b3 _ _ hl nD
      have lvs : vs.length = i := by
        rw [aD.length, hes.len, List.length_take]
        omega
      have aD3 : AtAll Dl H3 (vs ++ [y']) (es ++ [d']) := (aD.but2 (But2.ofM b3).swap aS2).append (hz _ _ hl)
      have aZ3 : ∀ z o, H1 z = some o → AtAll z H3 (vs ++ [y']) (es ++ [d']) := fun z o hz1 => by
        refine ((aZ z o hz1).but2 (But2.ofM b3).swap aS2).append ?_
        by_cases hzs : z = st
        · subst hzs
          exact hz _ _ hst2
        · exact hz _ _ (b2 _ _ hz1 hzs)
      refine ⟨vs, hl3, (by rw [lvs]; exact Nat.lt_of_lt_of_le (show i < 5000000 by omega) (by decide)), ?_, ?_, vs ++ [y'], es ++ [d'], ?_, upd_same, ?_, ?_⟩
      · intro b u e nb
        rw [upd_ne (ne_of_none e hD)]
        exact b3 _ _ (b2 _ _ e nb) nb
      · obtain ⟨hc, n', v', b', h0', hs⟩ := dr3
        exact ⟨by rw [upd_ne (ne_of_none dr1.1 hD)]; exact hc, n', v', b', h0', by rw [upd_ne (Ne.symm nD)]; exact hs⟩
      · rw [take_succ' e1]
        exact hes.snoc hh
      · exact aD3.but2 (fun x u e n1 _ => by rw [upd_ne n1]; exact e) aD3
      · intro z o hz1
        exact (aZ3 z o hz1).but2 But2.upd aD3
    · rintro H2 ⟨b2, dr2, vs, es, hes, hl, aD, aZ⟩
      rw [lus, List.take_length] at hes
      have bb2 : But st H H2 := (Same.but stp).trans b2
      refine ⟨_, rfl, _, rfl, _, _, rfl, .inl ⟨SqL.of hl, fun q hq => ?_⟩⟩
      have s3 := same_new (o := .tup vs) hq
      have e3 : upd H2 q (.tup vs) q = some (.tup vs) := upd_same
      generalize upd H2 q (.tup vs) = H3 at s3 e3 ⊢
      refine ⟨(by show 2 ≤ sizeLine; decide), fun L nL => ?_⟩
      generalize hL : upd H3 L _ = H4
      have sL : Same H3 H4 := hL ▸ Same.new nL
      have eL : H4 L = some (.lst [.ref Dl, .ref q]) := hL ▸ upd_same
      clear hL
      have s4 := Same.tr s3 sL
      refine ⟨_, rfl, st, c, ns, 2, rfl, dr2.same s4, hns, (by decide), (by decide), fun j H5 hj0 hj2 dr5 b5 => ?_⟩
      have b25 : But st H2 H5 := (Same.but s4).trans b5
      have nL : L ≠ st := (dr2.same s3).nst nL
      have nq : q ≠ st := dr2.nst hq
      have bb5 := bb2.trans b25
      obtain ⟨o1, hst1⟩ := dr1.at
      have aS2 := aZ _ _ hst1
      have up : ∀ z o, H z = some o → AtAll z H5 vs es ∧ z ≠ Dl ∧ z ≠ q := fun z o hz => by
        have hz1 := stp _ _ hz
        refine ⟨(aZ z o hz1).but2 (But2.ofM b25).swap aS2, ne_of_none hz1 hD, ?_⟩
        by_cases hzs : z = st
        · rw [hzs]
          exact Ne.symm nq
        · exact ne_of_none (b2 _ _ hz1 hzs) hq
      rcases (show j = 0 ∨ j = 1 by omega) with rfl | rfl
      · refine ⟨_, _, _, _, rfl, rfl, SqL.of (b5 _ _ eL nL), rfl, ?_⟩
        exact k _ (.list es) _ (.seq sq (.inl rfl) hes) (fun z o hz => .lst (Ne.symm (up z o hz).2.1) (b25 _ _ hl nD) (up z o hz).1) dr5 bb5
      · refine ⟨_, _, _, _, rfl, rfl, SqL.of (b5 _ _ eL nL), rfl, ?_⟩
        exact k _ (.tuple es) _ (.seq sq (.inr rfl) hes) (fun z o hz => .tup (Ne.symm (up z o hz).2.2) (b5 _ _ (sL _ _ e3) nq) (up z o hz).1) dr5 bb5
theorem pr_handed (D : Df K mg "_law_handed" sHanded ["_law_state", "_law_thing"]) (T : Ty mg) (PT : Pr P w K mg base 2 "_law_take" ["_law_state", "_law_many"] spTake) : ∀ n, Pr P w K mg base (n + 2) "_law_handed" ["_law_state", "_law_thing"] (spH n)
  | 0 => by
    obtain ⟨f, fd, F, b, g⟩ := D
    exact ⟨f, fd, ⟨fun _ _ _ _ h => h.elim, fun _ _ _ _ _ _ _ _ _ _ _ _ _ h => h.elim⟩, g, F.kp, b⟩
  | n + 1 => step_handed D T PT (pr_handed D T PT n)
end
end C81

set_option Elab.async false
set_option maxRecDepth 100000
set_option maxHeartbeats 4000000
set_option linter.all false
/-! The search by layers, in plain Lean. -/
namespace C81
open PySem L2 My M78
/-- a step of script k: the state behind it, and whether it is refused -/
def nx (ss : List (List Wd)) (xs : List Row) (k : Nat) : List Row × Bool :=
  match ss[k]?, xs[k]? with
  | some sc, some x => (match sc[x.p.toNat]? with | some v => (xs.set k (triedM v x (topM xs k)).1, (triedM v x (topM xs k)).2) | none => (xs, true))
  | _, _ => (xs, true)
abbrev wt (ss : List (List Wd)) (xs : List Row) : List Nat := waitL ss xs xs.length
/-- what is known of a state -/
def St (ss : List (List Wd)) (xs : List Row) : Prop := SI ss xs
structure Ok4 (ss : List (List Wd)) : Prop where
  l1 : 1 ≤ ss.length
  l4 : ss.length ≤ 4
  ok : ∀ sc ∈ ss, okScr sc
theorem wt_nx {ss : List (List Wd)} {xs : List Row} {k : Nat} (ok : ∀ sc ∈ ss, okScr sc) (si : SI ss xs) (hk : k ∈ wt ss xs) :
    ∃ (sc : List Wd) (x : Row) (p : Nat) (v : Wd), ss[k]? = some sc ∧ xs[k]? = some x ∧ x.p = (p : Int) ∧ sc[p]? = some v ∧ nx ss xs k = (xs.set k (triedM v x (topM xs k)).1, (triedM v x (topM xs k)).2) ∧ SI ss (nx ss xs k).1 ∧ afterM v x (topM xs k) = triedM v x (topM xs k) := by
  obtain ⟨sc, x, hj, hsc, hx, hp⟩ := waitL_mem hk
  have ri := si.get hsc hx
  obtain ⟨p, hpp, hple, _⟩ := id ri
  have hpl : p < sc.length := by omega
  obtain ⟨v, hv⟩ : ∃ v, sc[p]? = some v := ⟨_, List.getElem?_eq_getElem hpl⟩
  obtain ⟨haf, ri'⟩ := ri.step (t := topM xs k) (ok sc (List.mem_of_getElem? hsc)) hpp hv
  have e : nx ss xs k = (xs.set k (triedM v x (topM xs k)).1, (triedM v x (topM xs k)).2) := by
    unfold nx
    rw [hsc, hx]
    dsimp only
    rw [hpp, Int.toNat_natCast, hv]
  refine ⟨sc, x, p, v, hsc, hx, hpp, hv, e, ?_, haf⟩
  rw [e]
  exact si.set hsc ri'
theorem nx_len (ss : List (List Wd)) (xs : List Row) (k : Nat) : (nx ss xs k).1.length = xs.length := by
  unfold nx
  split
  · split
    · rw [List.length_set]
    · rfl
  · rfl
/-! finitely many states -/
/-- the rows that a script may have -/
def rowsOf (sc : List Wd) : List Row := (List.range (sc.length + 1)).flatMap fun p : Nat => (List.range 5).map fun l : Nat => ⟨(p : Int), (flg sc p).1, (flg sc p).2, (l : Int)⟩
def allSt : List (List Wd) → List (List Row)
  | [] => [[]]
  | sc :: r => (rowsOf sc).flatMap fun x => (allSt r).map fun xs => x :: xs
theorem rowsOf_mem {sc : List Wd} {x : Row} (h : RI sc x) : x ∈ rowsOf sc := by
  obtain ⟨p, hp, hle, ho, hr, h0, h4, _⟩ := h
  refine List.mem_flatMap.mpr ⟨p, List.mem_range.mpr (by omega), List.mem_map.mpr ⟨x.l.toNat, List.mem_range.mpr (by omega), ?_⟩⟩
  obtain ⟨xp, xo, xr, xl⟩ := x
  dsimp only at *
  subst hp ho hr
  rw [Int.toNat_of_nonneg h0]
theorem rowsOf_len (sc : List Wd) : (rowsOf sc).length = (sc.length + 1) * 5 := by
  unfold rowsOf
  rw [List.length_flatMap]
  have : (List.range (sc.length + 1)).map (fun p : Nat => ((List.range 5).map fun l : Nat => (⟨(p : Int), (flg sc p).1, (flg sc p).2, (l : Int)⟩ : Row)).length) = List.replicate (sc.length + 1) 5 := by
    rw [List.eq_replicate_iff]
    refine ⟨by rw [List.length_map, List.length_range], fun b hb => ?_⟩
    obtain ⟨p, _, rfl⟩ := List.mem_map.mp hb
    rw [List.length_map, List.length_range]
  rw [this, List.sum_replicate_nat]
theorem allSt_mem : ∀ {ss : List (List Wd)} {xs : List Row}, SI ss xs → xs ∈ allSt ss
  | _, _, .nil => List.mem_singleton.mpr rfl
  | _, _, .cons h q => List.mem_flatMap.mpr ⟨_, rowsOf_mem h, List.mem_map.mpr ⟨_, allSt_mem q, rfl⟩⟩
theorem flat_const {α β : Type} (l : List α) (m : List β) (f : α → β → List Row) : (l.flatMap fun x => m.map fun y => f x y).length = l.length * m.length := by
  induction l with
  | nil => simp
  | cons a r ih =>
    rw [List.flatMap_cons, List.length_append, ih, List.length_map, List.length_cons, Nat.add_mul, Nat.one_mul]
    omega
def bnd : List (List Wd) → Nat
  | [] => 1
  | sc :: r => ((sc.length + 1) * 5) * bnd r
theorem allSt_len : ∀ ss : List (List Wd), (allSt ss).length = bnd ss
  | [] => rfl
  | sc :: r => by
    show ((rowsOf sc).flatMap fun x => (allSt r).map fun xs => x :: xs).length = _
    rw [flat_const (rowsOf sc) (allSt r) (fun x xs => x :: xs), rowsOf_len, allSt_len r]
    rfl
theorem bnd_pos : ∀ ss : List (List Wd), 1 ≤ bnd ss
  | [] => Nat.le_refl _
  | sc :: r => Nat.mul_pos (by omega) (bnd_pos r)
theorem bnd_le : ∀ {ss : List (List Wd)} {n : Nat}, (∀ sc ∈ ss, sc.length ≤ 8) → ss.length ≤ n → bnd ss ≤ 45 ^ n
  | [], n, _, _ => Nat.one_le_pow _ _ (by decide)
  | sc :: r, n, h, hn => by
    obtain ⟨n', rfl⟩ : ∃ n', n = n' + 1 := ⟨n - 1, by rw [List.length_cons] at hn; omega⟩
    have h1 := bnd_le (ss := r) (n := n') (fun s hs => h s (List.mem_cons_of_mem _ hs)) (by rw [List.length_cons] at hn; omega)
    have h2 := h sc (List.mem_cons_self ..)
    show ((sc.length + 1) * 5) * bnd r ≤ 45 ^ (n' + 1)
    rw [Nat.pow_succ, Nat.mul_comm (45 ^ n')]
    exact Nat.mul_le_mul (by omega) h1
theorem bnd_small {ss : List (List Wd)} (h : Ok4 ss) : bnd ss ≤ 4100625 := bnd_le (n := 4) (fun sc hs => (h.ok sc hs).1) h.l4
theorem nodup_le {α : Type} [DecidableEq α] : ∀ {l m : List α}, l.Nodup → (∀ x ∈ l, x ∈ m) → l.length ≤ m.length
  | [], m, _, _ => Nat.zero_le _
  | a :: r, m, hn, hs => by
    have ha := hs a (List.mem_cons_self ..)
    obtain ⟨hn1, hn2⟩ := List.nodup_cons.mp hn
    have h1 : r.length ≤ (m.erase a).length := nodup_le hn2 fun x hx => (List.mem_erase_of_ne (fun z : x = a => hn1 (by rw [← z]; exact hx))).mpr (hs x (List.mem_cons_of_mem _ hx))
    rw [List.length_erase_of_mem ha] at h1
    have : 1 ≤ m.length := List.length_pos_of_mem ha
    rw [List.length_cons]
    omega
/-! the search -/
/-- a state that was found: how many steps to it, and from where -/
structure Nd where
  s : List Row
  d : Nat
  par : Option (List Row × Nat)
def addN (es : List Nd) (x : Nd) (y : List Row) (k : Nat) : List Nd := if y ∈ es.map Nd.s then es else es ++ [⟨y, x.d + 1, some (x.s, k)⟩]
def stepN (ss : List (List Wd)) (tr : Bool) (x : Nd) (es : List Nd) (k : Nat) : List Nd := if (tr || !(nx ss x.s k).2) = true then addN es x (nx ss x.s k).1 k else es
def expN (ss : List (List Wd)) (tr : Bool) (x : Nd) (es : List Nd) (ks : List Nat) : List Nd := ks.foldl (stepN ss tr x) es
def s0 (ss : List (List Wd)) : List Row := List.replicate ss.length row0
def bfs (ss : List (List Wd)) (tr : Bool) : Nat → List Nd
  | 0 => [⟨s0 ss, 0, none⟩]
  | n + 1 => match (bfs ss tr n)[n]? with
    | some x => expN ss tr x (bfs ss tr n) (wt ss x.s)
    | none => bfs ss tr n
/-- how a state was found -/
def GoodN (ss : List (List Wd)) (tr : Bool) (es : List Nd) (e : Nd) : Prop :=
  (e.par = none ∧ e.d = 0 ∧ e.s = s0 ss) ∨ ∃ x ∈ es, ∃ k, e.par = some (x.s, k) ∧ e.d = x.d + 1 ∧ k ∈ wt ss x.s ∧ (nx ss x.s k).1 = e.s ∧ (tr = true ∨ (nx ss x.s k).2 = false)
/-- what holds while the state number n is looked at -/
structure InvN (ss : List (List Wd)) (tr : Bool) (es : List Nd) : Prop where
  nodup : (es.map Nd.s).Nodup
  si : ∀ e ∈ es, SI ss e.s
  good : ∀ e ∈ es, GoodN ss tr es e
  first : ∃ r, es = ⟨s0 ss, 0, none⟩ :: r
theorem GoodN.more {ss : List (List Wd)} {tr : Bool} {es es' : List Nd} {e : Nd} (h : GoodN ss tr es e) (s : ∀ x ∈ es, x ∈ es') : GoodN ss tr es' e := by
  rcases h with h | ⟨x, hx, h⟩
  · exact .inl h
  · exact .inr ⟨x, s x hx, h⟩
theorem step_pre (ss : List (List Wd)) (tr : Bool) (x : Nd) (es : List Nd) (k : Nat) : ∃ t, stepN ss tr x es k = es ++ t := by
  unfold stepN addN
  split
  · split
    · exact ⟨[], (List.append_nil _).symm⟩
    · exact ⟨_, rfl⟩
  · exact ⟨[], (List.append_nil _).symm⟩
theorem exp_pre (ss : List (List Wd)) (tr : Bool) (x : Nd) : ∀ (ks : List Nat) (es : List Nd), ∃ t, expN ss tr x es ks = es ++ t
  | [], es => ⟨[], (List.append_nil _).symm⟩
  | k :: r, es => by
    obtain ⟨t, ht⟩ := step_pre ss tr x es k
    obtain ⟨t', ht'⟩ := exp_pre ss tr x r (stepN ss tr x es k)
    exact ⟨t ++ t', by show expN ss tr x (stepN ss tr x es k) r = _; rw [ht', ht, List.append_assoc]⟩
theorem InvN.step {ss : List (List Wd)} {tr : Bool} {es : List Nd} {x : Nd} {k : Nat} (h : InvN ss tr es) (ok : ∀ sc ∈ ss, okScr sc) (hx : x ∈ es) (hk : k ∈ wt ss x.s) : InvN ss tr (stepN ss tr x es k) := by
  unfold stepN addN
  split
  · rename_i htr
    split
    · exact h
    · rename_i hne
      obtain ⟨r, hr⟩ := h.first
      have sub : ∀ z ∈ es, z ∈ es ++ [(⟨(nx ss x.s k).1, x.d + 1, some (x.s, k)⟩ : Nd)] := fun z hz => List.mem_append_left _ hz
      refine ⟨?_, fun e he => ?_, fun e he => ?_, ⟨r ++ [_], by rw [hr]; rfl⟩⟩
      · rw [List.map_append, List.nodup_append]
        refine ⟨h.nodup, List.nodup_cons.mpr ⟨List.not_mem_nil, List.nodup_nil⟩, fun a ha b hb => ?_⟩
        obtain rfl := List.mem_singleton.mp hb
        rintro rfl
        exact hne ha
      · rcases List.mem_append.mp he with he | he
        · exact h.si e he
        · obtain rfl := List.mem_singleton.mp he
          obtain ⟨_, _, _, _, _, _, _, _, _, q, _⟩ := wt_nx ok (h.si x hx) hk
          exact q
      · rcases List.mem_append.mp he with he | he
        · exact (h.good e he).more sub
        · obtain rfl := List.mem_singleton.mp he
          refine .inr ⟨x, sub x hx, k, rfl, rfl, hk, rfl, ?_⟩
          cases tr
          · right
            simpa using htr
          · exact .inl rfl
  · exact h
theorem InvN.exp {ss : List (List Wd)} {tr : Bool} {x : Nd} (ok : ∀ sc ∈ ss, okScr sc) : ∀ {ks : List Nat} {es : List Nd}, InvN ss tr es → x ∈ es → (∀ k ∈ ks, k ∈ wt ss x.s) → InvN ss tr (expN ss tr x es ks)
  | [], es, h, _, _ => h
  | k :: r, es, h, hx, hk => by
    obtain ⟨t, ht⟩ := step_pre ss tr x es k
    exact InvN.exp (ks := r) (es := stepN ss tr x es k) ok (h.step ok hx (hk k (List.mem_cons_self ..))) (by rw [ht]; exact List.mem_append_left _ hx) fun j hj => hk j (List.mem_cons_of_mem _ hj)
theorem bfs_inv {ss : List (List Wd)} {tr : Bool} (ok : ∀ sc ∈ ss, okScr sc) : ∀ n, InvN ss tr (bfs ss tr n)
  | 0 => ⟨List.nodup_cons.mpr ⟨List.not_mem_nil, List.nodup_nil⟩, fun e he => by rw [List.mem_singleton.mp he]; exact SI.zero ss, fun e he => by rw [List.mem_singleton.mp he]; exact .inl ⟨rfl, rfl, rfl⟩, ⟨[], rfl⟩⟩
  | n + 1 => by
    have ih := bfs_inv (tr := tr) ok n
    show InvN ss tr (match (bfs ss tr n)[n]? with | some x => expN ss tr x (bfs ss tr n) (wt ss x.s) | none => bfs ss tr n)
    split
    · rename_i x hx
      exact ih.exp ok (List.mem_of_getElem? hx) fun _ h => h
    · exact ih
theorem InvN.len {ss : List (List Wd)} {tr : Bool} {es : List Nd} (h : InvN ss tr es) : es.length ≤ bnd ss := by
  have h1 := nodup_le h.nodup (m := allSt ss) fun x hx => by
    obtain ⟨e, he, rfl⟩ := List.mem_map.mp hx
    exact allSt_mem (h.si e he)
  rw [List.length_map, allSt_len] at h1
  exact h1
/-- no state is deeper than there are states -/
theorem InvN.chain {ss : List (List Wd)} {tr : Bool} {es : List Nd} (h : InvN ss tr es) : ∀ (n : Nat) (e : Nd), e ∈ es → e.d = n → ∀ j, j ≤ n → ∃ x ∈ es, x.d = j
  | 0, e, he, hd, j, hj => ⟨e, he, by omega⟩
  | n + 1, e, he, hd, j, hj => by
    rcases Nat.lt_or_ge j (n + 1) with hl | hl
    · rcases h.good e he with ⟨_, h2, _⟩ | ⟨x, hx, k, _, h2, _⟩
      · omega
      · exact InvN.chain h n x hx (by omega) j (by omega)
    · exact ⟨e, he, by omega⟩
theorem InvN.depth {ss : List (List Wd)} {tr : Bool} {es : List Nd} (h : InvN ss tr es) {e : Nd} (he : e ∈ es) : e.d < es.length := by
  have h1 := nodup_le (l := List.range (e.d + 1)) (m := es.map Nd.d) List.nodup_range fun j hj => by
    obtain ⟨x, hx, hd⟩ := h.chain e.d e he rfl j (by have := List.mem_range.mp hj; omega)
    exact List.mem_map.mpr ⟨x, hx, hd⟩
  rw [List.length_range, List.length_map] at h1
  omega
/-- the layers: depths rise along the list, and none is far ahead -/
def Lay (es : List Nd) (D : Nat) : Prop := es.Pairwise (fun a b => a.d ≤ b.d) ∧ ∀ e ∈ es, e.d ≤ D + 1
theorem lay_step {ss : List (List Wd)} {tr : Bool} {es : List Nd} {x : Nd} {k : Nat} (h : Lay es x.d) : Lay (stepN ss tr x es k) x.d := by
  unfold stepN addN
  split
  · split
    · exact h
    · refine ⟨List.pairwise_append.mpr ⟨h.1, List.pairwise_singleton _ _, fun a ha b hb => ?_⟩, fun e he => ?_⟩
      · obtain rfl := List.mem_singleton.mp hb
        exact h.2 a ha
      · rcases List.mem_append.mp he with he | he
        · exact h.2 e he
        · obtain rfl := List.mem_singleton.mp he
          exact Nat.le_refl _
  · exact h
theorem lay_exp {ss : List (List Wd)} {tr : Bool} {x : Nd} : ∀ {ks : List Nat} {es : List Nd}, Lay es x.d → Lay (expN ss tr x es ks) x.d
  | [], es, h => h
  | k :: r, es, h => lay_exp (ks := r) (lay_step h)
theorem bfs_pre (ss : List (List Wd)) (tr : Bool) (n : Nat) : ∃ t, bfs ss tr (n + 1) = bfs ss tr n ++ t := by
  show ∃ t, (match (bfs ss tr n)[n]? with | some x => expN ss tr x (bfs ss tr n) (wt ss x.s) | none => bfs ss tr n) = _
  split
  · exact exp_pre ..
  · exact ⟨[], (List.append_nil _).symm⟩
theorem bfs_lay (ss : List (List Wd)) (tr : Bool) : ∀ n, (bfs ss tr n).Pairwise (fun a b => a.d ≤ b.d) ∧ ∀ x, (bfs ss tr n)[n]? = some x → Lay (bfs ss tr n) x.d
  | 0 => ⟨List.pairwise_singleton _ _, fun x hx => by
      cases hx
      exact ⟨List.pairwise_singleton _ _, fun e he => by rw [List.mem_singleton.mp he]; exact Nat.zero_le _⟩⟩
  | n + 1 => by
    obtain ⟨h1, h2⟩ := bfs_lay ss tr n
    have key : ∀ x, (bfs ss tr n)[n]? = some x → Lay (bfs ss tr (n + 1)) x.d := fun x hx => by
      show Lay (match (bfs ss tr n)[n]? with | some x => expN ss tr x (bfs ss tr n) (wt ss x.s) | none => bfs ss tr n) x.d
      rw [hx]
      exact lay_exp (h2 x hx)
    cases hx : (bfs ss tr n)[n]? with
    | none =>
      have e : bfs ss tr (n + 1) = bfs ss tr n := by
        show (match (bfs ss tr n)[n]? with | some x => expN ss tr x (bfs ss tr n) (wt ss x.s) | none => bfs ss tr n) = _
        rw [hx]
      rw [e]
      refine ⟨h1, fun x h => ?_⟩
      have := (List.getElem?_eq_some_iff.mp h).1
      have := List.getElem?_eq_none_iff.mp hx
      omega
    | some x =>
      have lx := key x hx
      refine ⟨lx.1, fun y hy => ⟨lx.1, fun e he => ?_⟩⟩
      obtain ⟨t, ht⟩ := bfs_pre ss tr n
      have hn : n < (bfs ss tr n).length := (List.getElem?_eq_some_iff.mp hx).1
      have hx' : (bfs ss tr (n + 1))[n]? = some x := by rw [ht, List.getElem?_append_left hn]; exact hx
      obtain ⟨i1, g1⟩ := List.getElem?_eq_some_iff.mp hx'
      obtain ⟨i2, g2⟩ := List.getElem?_eq_some_iff.mp hy
      have hxy : x.d ≤ y.d := by
        have := List.pairwise_iff_getElem.mp lx.1 n (n + 1) i1 i2 (by omega)
        rw [g1, g2] at this
        exact this
      have := lx.2 e he
      omega
/-- a run over the states by numbers: where it ends -/
def run (ss : List (List Wd)) : List Row → List Nat → List Row
  | xs, [] => xs
  | xs, k :: r => run ss (nx ss xs k).1 r
end C81

set_option Elab.async false
set_option maxRecDepth 100000
set_option maxHeartbeats 4000000
set_option linter.all false
/-! Dicts whose keys are tuples, nested to any depth. -/
namespace My
open PySem PySem.Spec PyProof.Rows L2
/-- an entry: the key, its tuple's address, the value -/
abbrev NE := NestedKey × Addr × V
def RelE (p : NE) (q : NestedKey × Addr × Value) : Prop := p.1 = q.1 ∧ p.2.1 = q.2.1 ∧ RelV p.2.2 q.2.2
/-- the dict's own object -/
def NDO (P : Program) (w : World) (a : Addr) (kvs : List NE) : HO := .ext fun h => (a == sysModules) = false ∧ kvs.length ≤ sizeLine ∧ ∃ xs, Paired RelE kvs xs ∧ ∃ o es ep, h.get? a = some o ∧ o.ExactDict ∧ o.data = .dict es ep ∧ es.toList = xs.map (entryOfKey (nestedKind P w))
mutual
/-- the value is this key -/
inductive KtV (H : Hp) : V → NestedKey → Prop
  | non : KtV H .non .none
  | bl (b : Bool) : KtV H (.bl b) (.num (if b = true then 1 else 0))
  | int (i : Int) : KtV H (.int i) (.num i)
  | str (x : Str) : KtV H (.str x) (.text x)
  | tup {a : Addr} {xs : List V} {ks : List NestedKey} : H a = some (.tup xs) → KtAll H xs ks → KtV H (.ref a) (.tup ks)
inductive KtAll (H : Hp) : List V → List NestedKey → Prop
  | nil : KtAll H [] []
  | cons {v : V} {vs : List V} {k : NestedKey} {ks : List NestedKey} : KtV H v k → KtAll H vs ks → KtAll H (v :: vs) (k :: ks)
end
mutual
theorem KtV.mono {H H' : Hp} (s : ∀ a xs, H a = some (.tup xs) → H' a = some (.tup xs)) : ∀ {v : V} {k : NestedKey}, KtV H v k → KtV H' v k
  | _, _, .non => .non
  | _, _, .bl b => .bl b
  | _, _, .int i => .int i
  | _, _, .str x => .str x
  | _, _, .tup e q => .tup (s _ _ e) (KtAll.mono s q)
theorem KtAll.mono {H H' : Hp} (s : ∀ a xs, H a = some (.tup xs) → H' a = some (.tup xs)) : ∀ {vs : List V} {ks : List NestedKey}, KtAll H vs ks → KtAll H' vs ks
  | _, _, .nil => .nil
  | _, _, .cons h q => .cons (KtV.mono s h) (KtAll.mono s q)
end
section
variable {P : Program} {w : World} {H : Hp} {h : Heap} {a : Addr}
mutual
theorem KtV.is (ok : HOk P w H h) : ∀ {v : V} {k : NestedKey}, KtV H v k → ∀ {u : Value}, RelV v u → NestedIs h k u
  | _, _, .non, _, r => by
    cases (show _ = Value.none from r)
    exact .none
  | _, _, .bl b, _, r => by
    cases (show _ = Value.bool b from r)
    exact .bool rfl
  | _, _, .int i, _, r => by
    obtain ⟨t, rfl⟩ := r
    exact .int i t
  | _, _, .str x, _, r => by
    obtain ⟨t, rfl⟩ := r
    exact .text x t
  | _, _, .tup (a := a) e q, _, r => by
    cases (show _ = Value.ref a from r)
    obtain ⟨_, its, rv, o, h1, h2, n, h3⟩ := (show ObjOk P w H h a (.tup _) from ok a _ e)
    exact .tup h1 h2 h3 (by simpa using KtAll.is ok q rv)
theorem KtAll.is (ok : HOk P w H h) : ∀ {vs : List V} {ks : List NestedKey}, KtAll H vs ks → ∀ {us : List Value}, Vals vs us → NestedAll h ks us
  | _, _, .nil, _, .nil => .nil
  | _, _, .cons h q, _, .cons r rr => .cons (KtV.is ok h r) (KtAll.is ok q rr)
end
/-- at a stands a dict with these entries -/
def DN (P : Program) (w : World) (H : Hp) (a : Addr) (kvs : List NE) : Prop := H a = some (NDO P w a kvs) ∧ (kvs.map (·.1)).Nodup ∧ ∀ e ∈ kvs, KtV H (.ref e.2.1) e.1 ∧ e.1.depth ≤ 8
theorem rel_keys : ∀ {kvs : List NE} {xs : List (NestedKey × Addr × Value)}, Paired RelE kvs xs → xs.map (·.1) = kvs.map (·.1)
  | _, _, .nil => rfl
  | _, _, .cons h q => by rw [List.map_cons, List.map_cons, rel_keys q, h.1]
theorem rel_mem : ∀ {kvs : List NE} {xs : List (NestedKey × Addr × Value)}, Paired RelE kvs xs → ∀ x ∈ xs, ∃ e ∈ kvs, RelE e x
  | _, _, .nil, x, hx => nomatch hx
  | _, _, .cons h q, x, hx => by
    rcases List.mem_cons.mp hx with rfl | hx
    · exact ⟨_, List.mem_cons_self .., h⟩
    · obtain ⟨e, he, r⟩ := rel_mem q x hx
      exact ⟨e, List.mem_cons_of_mem _ he, r⟩
def getN (kvs : List NE) (k : NestedKey) : Option V := (kvs.find? fun e => decide (e.1 = k)).map (·.2.2)
theorem rel_get {k : NestedKey} : ∀ {kvs : List NE} {xs : List (NestedKey × Addr × Value)}, Paired RelE kvs xs → RelO (getN kvs k) ((atKey xs k).map (·.2))
  | _, _, .nil => trivial
  | _, _, .cons (a := e) (b := x) h q => by
    obtain ⟨e1, e2, e3⟩ := h
    have ih := rel_get (k := k) q
    unfold getN atKey
    rw [List.find?_cons, List.find?_cons, ← e1]
    by_cases hk : e.1 = k
    · rw [decide_eq_true hk]
      exact e3
    · rw [decide_eq_false hk]
      exact ih
theorem nd_rd (ok : HOk P w H h) {kvs : List NE} (d : DN P w H a kvs) : (a == sysModules) = false ∧ kvs.length ≤ sizeLine ∧ ∃ xs, Paired RelE kvs xs ∧ h.DictOfH (nestedKind P w) a xs := by
  obtain ⟨e, hn, hk⟩ := d
  obtain ⟨⟨h1, h2, xs, r, o, es, ep, q1, q2, q3, q4⟩, _, _⟩ := (show ObjOk P w H h a (NDO P w a kvs) from ok a _ e)
  refine ⟨h1, h2, xs, r, o, es, ep, q1, q2, q3, q4, fun x hx => ?_, by rw [rel_keys r]; exact hn⟩
  obtain ⟨e, he, e1, e2, _⟩ := rel_mem r x hx
  obtain ⟨k1, k2⟩ := hk e he
  rw [← e1, ← e2]
  exact ⟨k1.is ok rfl, k2⟩
def putN (kvs : List NE) (k : NestedKey) (b : Addr) (v : V) : List NE := if (getN kvs k).isSome = true then kvs.map (fun e => if e.1 = k then (e.1, e.2.1, v) else e) else kvs ++ [(k, b, v)]
theorem rel_put {k : NestedKey} {b : Addr} {v : V} {u : Value} {kvs : List NE} {xs : List (NestedKey × Addr × Value)} (r : Paired RelE kvs xs) (rv : RelV v u) : Paired RelE (putN kvs k b v) (storedH xs k b u) := by
  have q := (rel_get (k := k) r).isSome_eq
  rw [Option.isSome_map] at q
  unfold putN storedH
  rw [q]
  split
  · have : ∀ {kvs : List NE} {xs : List (NestedKey × Addr × Value)}, Paired RelE kvs xs → Paired RelE (kvs.map (fun e => if e.1 = k then (e.1, e.2.1, v) else e)) (xs.map (putAt k u)) := by
      intro kvs xs r
      induction r with
      | nil => exact .nil
      | @cons e x es xs h t ih =>
        obtain ⟨e1, e2, e3⟩ := h
        refine .cons ?_ ih
        unfold putAt
        dsimp only
        rw [← e1]
        by_cases hk : e.1 = k
        · rw [if_pos hk, if_pos hk]
          exact ⟨rfl, e2, rv⟩
        · rw [if_neg hk, if_neg hk]
          exact ⟨e1, e2, e3⟩
    exact this r
  · have : ∀ {kvs : List NE} {xs : List (NestedKey × Addr × Value)}, Paired RelE kvs xs → Paired RelE (kvs ++ [(k, b, v)]) (xs ++ [(k, b, u)]) := by
      intro kvs xs r
      induction r with
      | nil => exact .cons ⟨rfl, rfl, rv⟩ .nil
      | cons h t ih => exact .cons h ih
    exact this r
theorem getN_isSome {kvs : List NE} {k : NestedKey} : (getN kvs k).isSome = true ↔ k ∈ kvs.map (·.1) := by
  unfold getN
  rw [Option.isSome_map, List.find?_isSome, List.mem_map]
  simp only [decide_eq_true_eq]
theorem putN_len (kvs : List NE) (k : NestedKey) (b : Addr) (v : V) : (putN kvs k b v).length ≤ kvs.length + 1 := by
  unfold putN
  split
  · rw [List.length_map]
    omega
  · rw [List.length_append]
    exact Nat.le_refl _
theorem putN_nodup {kvs : List NE} (k : NestedKey) (b : Addr) (v : V) (hn : (kvs.map (·.1)).Nodup) : ((putN kvs k b v).map (·.1)).Nodup := by
  unfold putN
  split
  · have : (kvs.map (fun e => if e.1 = k then (e.1, e.2.1, v) else e)).map (·.1) = kvs.map (·.1) := by
      rw [List.map_map]
      refine List.map_congr_left fun e _ => ?_
      show (if e.1 = k then (e.1, e.2.1, v) else e).1 = e.1
      split <;> rfl
    rw [this]
    exact hn
  · rename_i hg
    rw [List.map_append, List.nodup_append]
    refine ⟨hn, List.nodup_cons.mpr ⟨List.not_mem_nil, List.nodup_nil⟩, fun x hx y hy => ?_⟩
    obtain rfl := List.mem_singleton.mp hy
    rintro rfl
    exact hg (getN_isSome.mpr hx)
theorem putN_mem {kvs : List NE} {k : NestedKey} {b : Addr} {v : V} {e : NE} (he : e ∈ putN kvs k b v) : (∃ e' ∈ kvs, e'.1 = e.1 ∧ e'.2.1 = e.2.1) ∨ (e.1 = k ∧ e.2.1 = b) := by
  unfold putN at he
  split at he
  · obtain ⟨e', h', rfl⟩ := List.mem_map.mp he
    refine .inl ⟨e', h', ?_⟩
    split <;> exact ⟨rfl, rfl⟩
  · rcases List.mem_append.mp he with he | he
    · exact .inl ⟨e, he, rfl, rfl⟩
    · obtain rfl := List.mem_singleton.mp he
      exact .inr ⟨rfl, rfl⟩
/-- the dict behind a store -/
theorem DN.put {kvs : List NE} {k : NestedKey} {b : Addr} {v : V} (d : DN P w H a kvs) (hk : KtV H (.ref b) k) (hd : k.depth ≤ 8) : DN P w (L2.upd H a (NDO P w a (putN kvs k b v))) a (putN kvs k b v) := by
  obtain ⟨e, hn, hq⟩ := d
  have up : ∀ (c : Addr) (xs : List V), H c = some (.tup xs) → L2.upd H a (NDO P w a (putN kvs k b v)) c = some (.tup xs) := fun c xs ec => by
    rw [upd_ne (ne_of ec e (fun z => by unfold NDO at z; cases z))]
    exact ec
  refine ⟨upd_same, putN_nodup k b v hn, fun x hx => ?_⟩
  rcases putN_mem hx with ⟨e', h', e1, e2⟩ | ⟨e1, e2⟩
  · obtain ⟨q1, q2⟩ := hq e' h'
    rw [← e1, ← e2]
    exact ⟨q1.mono up, q2⟩
  · rw [e1, e2]
    exact ⟨hk.mono up, hd⟩
theorem DN.mono {H' : Hp} {kvs : List NE} (d : DN P w H a kvs) (e : H' a = some (NDO P w a kvs)) (s : ∀ b xs, H b = some (.tup xs) → H' b = some (.tup xs)) : DN P w H' a kvs :=
  ⟨e, d.2.1, fun x hx => ⟨(d.2.2 x hx).1.mono s, (d.2.2 x hx).2⟩⟩
theorem DN.same {H' : Hp} {kvs : List NE} (d : DN P w H a kvs) (s : Same H H') : DN P w H' a kvs := d.mono (s _ _ d.1) fun b xs e => s _ _ e
end
section
variable {X : Cx} {pins : List (Addr × Obj)} {σ : L2.St} {H : Hp} {s : Shared} {a b : Addr} {k : NestedKey} {kvs : List NE} {A : Around} {E : Value → Shared → Prop}
theorem nd_room (hu : A.units + 64 < cLine) : (nestedKind X.prog X.w).room A.in1 := by
  show A.in1.units + 8 < cLine
  have : A.in1.units = A.units + 1 := rfl
  omega
theorem nd_key (I : Inv X pins σ H s) (hk : KtV H (.ref b) k) (hd : k.depth ≤ 8) : (nestedKind X.prog X.w).is s.heap k b := ⟨hk.is I.hok rfl, hd⟩
theorem nd_getItem {v : V} {Q : Value → Shared → Prop} (hu : A.units + 64 < cLine) (I : Inv X pins σ H s) (d : DN X.prog X.w H a kvs) (hk : KtV H (.ref b) k) (hd : k.depth ≤ 8) (g : getN kvs k = some v)
    (h : ∀ w' s', Inv X pins σ H s' → RelV v w' → Q w' s') : wpAny (model X.prog X.w) A (getItem (.ref a) (.ref b)) Q E s := by
  obtain ⟨_, _, xs, r, dd⟩ := nd_rd I.hok d
  obtain ⟨w', hw, rw'⟩ := RelO.some_of (v := v) (o := (atKey xs k).map (·.2)) (by rw [← g]; exact rel_get r)
  obtain ⟨p, hp, hp2⟩ := Option.map_eq_some_iff.mp hw
  refine wpAny_getItem_heap (nd_room hu) (nd_key I hk hd) dd hp ?_
  rw [hp2]
  exact h w' _ (I.tok _) rw'
theorem nd_in {Q : Value → Shared → Prop} (hu : A.units + 64 < cLine) (I : Inv X pins σ H s) (d : DN X.prog X.w H a kvs) (hk : KtV H (.ref b) k) (hd : k.depth ≤ 8)
    (h : ∀ s', Inv X pins σ H s' → Q (.bool (getN kvs k).isSome) s') : wpAny (model X.prog X.w) A (compareOp .In (.ref b) (.ref a)) Q E s := by
  obtain ⟨hs, _, xs, r, dd⟩ := nd_rd I.hok d
  refine wpAny_in_heap (nd_room hu) (nd_key I hk hd) hs dd ?_
  have q := (rel_get (k := k) r).isSome_eq
  rw [Option.isSome_map] at q
  rw [← q]
  exact h _ (I.tok _)
theorem nd_notIn {Q : Value → Shared → Prop} (hu : A.units + 64 < cLine) (I : Inv X pins σ H s) (d : DN X.prog X.w H a kvs) (hk : KtV H (.ref b) k) (hd : k.depth ≤ 8)
    (h : ∀ s', Inv X pins σ H s' → Q (.bool (!(getN kvs k).isSome)) s') : wpAny (model X.prog X.w) A (compareOp .NotIn (.ref b) (.ref a)) Q E s := by
  obtain ⟨hs, _, xs, r, dd⟩ := nd_rd I.hok d
  refine wpAny_notIn_heap (nd_room hu) (nd_key I hk hd) hs dd ?_
  have q := (rel_get (k := k) r).isSome_eq
  rw [Option.isSome_map] at q
  rw [← q]
  exact h _ (I.tok _)
/-- the dict's object as it stands behind a change -/
theorem nd_ok {P : Program} {w : World} {H' : Hp} {h' : Heap} {kvs : List NE} {xs : List (NestedKey × Addr × Value)} (hs : (a == sysModules) = false) (z : kvs.length ≤ sizeLine) (r : Paired RelE kvs xs) (dd : h'.DictOfH (nestedKind P w) a xs) : ObjOk P w H' h' a (NDO P w a kvs) := by
  obtain ⟨o, es, ep, q1, q2, q3, q4, _⟩ := dd
  refine ⟨⟨hs, z, xs, r, o, es, ep, q1, q2, q3, q4⟩, ⟨o, q1⟩, ?_⟩
  rintro h1 h2 ⟨hs, z, xs, r, o, es, ep, q1, q⟩ st
  exact ⟨hs, z, xs, r, o, es, ep, st _ q1, q⟩
theorem nd_setItem {v : V} {u : Value} {Q : Unit → Shared → Prop} (hu : A.units + 64 < cLine) (I : Inv X pins σ H s) (d : DN X.prog X.w H a kvs) (hk : KtV H (.ref b) k) (hd : k.depth ≤ 8) (hz : kvs.length < sizeLine) (rv : RelV v u)
    (h : ∀ s', Inv X pins σ (upd H a (NDO X.prog X.w a (putN kvs k b v))) s' → Q () s') : wpAny (model X.prog X.w) A (setItem (.ref a) (.ref b) u) Q E s := by
  obtain ⟨hs, z, xs, r, dd⟩ := nd_rd I.hok d
  refine wpAny_setItem_heap (hsz := by rw [← Paired.length r]; exact z) (nd_room hu) (nd_key I hk hd) dd fun h' dd' hsb => h _ ?_
  have he : ∃ q, h'.get? a = some q := let ⟨q, _, _, hq, _⟩ := dd'; ⟨q, hq⟩
  refine d_write I (by rw [d.1]; exact True.intro) hsb he (nd_ok hs (by have := putN_len kvs k b v; omega) (rel_put r rv) dd')
end
/-! ### readings and rules -/
/-- the dict that stands at x, the key that stands at y -/
def NdK (P : Program) (w : World) (H : Hp) (x y : V) (kvs : List NE) (k : NestedKey) (a b : Addr) : Prop := x = .ref a ∧ y = .ref b ∧ DN P w H a kvs ∧ KtV H (.ref b) k ∧ k.depth ≤ 8
def tNGet (P : Program) (w : World) (td ty : TE) : TE := fun σ H Q => td σ H fun x H1 => ty σ H1 fun y H2 => ∃ kvs k a b v, NdK P w H2 x y kvs k a b ∧ getN kvs k = some v ∧ Q v H2
def tNIn (P : Program) (w : World) (ty td : TE) : TE := fun σ H Q => ty σ H fun y H1 => td σ H1 fun x H2 => ∃ kvs k a b, NdK P w H2 x y kvs k a b ∧ Q (.bl (getN kvs k).isSome) H2
def tNNotIn (P : Program) (w : World) (ty td : TE) : TE := fun σ H Q => ty σ H fun y H1 => td σ H1 fun x H2 => ∃ kvs k a b, NdK P w H2 x y kvs k a b ∧ Q (.bl (!(getN kvs k).isSome)) H2
def sNPut (P : Program) (w : World) (td ty tv : TE) : TS := fun D σ H => tv σ H fun v H1 => td σ H1 fun x H2 => ty σ H2 fun y H3 => ∃ kvs k a b, NdK P w H3 x y kvs k a b ∧ kvs.length < sizeLine ∧ D.nx σ (upd H3 a (NDO P w a (putN kvs k b v)))
/-- {k: v} -/
def tNDisp (P : Program) (w : World) (tk tv : TE) : TE := fun σ H Q => ∀ p, H p = none → tPairs [(tk, tv)] σ (upd H p (NDO P w p [])) fun ps H2 => ∃ y v, ps = [(y, v)] ∧ H2 p = some (NDO P w p []) ∧ ∃ k b, y = .ref b ∧ KtV H2 (.ref b) k ∧ k.depth ≤ 8 ∧ Q (.ref p) (upd H2 p (NDO P w p [(k, b, v)]))
/-- {} -/
def tNNew (P : Program) (w : World) : TE := fun _ H Q => ∀ p, H p = none → Q (.ref p) (upd H p (NDO P w p []))
theorem DN.nil {P : Program} {w : World} {H : Hp} {a : Addr} (e : H a = some (NDO P w a [])) : DN P w H a [] := ⟨e, List.nodup_nil, fun x hx => nomatch hx⟩
theorem nd_empty {P : Program} {w : World} {H : Hp} (h : Heap) (hb : sysModules < h.objs.size) : ObjOk P w H (h.push { cls := .type "dict", data := .dict #[] }) h.objs.size (NDO P w h.objs.size []) :=
  nd_ok (beq_eq_false_iff_ne.mpr (Ne.symm (Nat.ne_of_lt hb))) (Nat.zero_le _) .nil (Heap.DictOfH.new h)
section
variable {X : Cx} {o i e value kx vx : Expr} {pos pos' tpos : Pos} {td ty tv tk : TE}
theorem pe_nget (hu : X.A.units + 64 < cLine) (ho : PE X o td) (hi : PE X i ty) (hs : NoSl i) : PE X (.Subscript o i pos) (tNGet X.prog X.w td ty) := by
  refine ⟨fun pins s σ H Q I h => ?_⟩
  refine subD_of PySem.F.slot_dict_getitem.lookup hs (thn (ho.run pins s σ H _ I h) fun u s1 ⟨x, H1, I1, rx, q1⟩ => thn (hi.run pins s1 σ H1 _ I1 q1) fun iv s2 ⟨y, H2, I2, ry, kvs, k, a, b, v, ⟨ex, ey, d, hk, hd⟩, g, q2⟩ => ?_)
  subst ex ey
  obtain rfl : u = Value.ref a := rx
  obtain rfl : iv = Value.ref b := ry
  obtain ⟨_, _, xs, r, dd⟩ := nd_rd I2.hok d
  exact ⟨dd.typeIs, nd_getItem hu I2 d hk hd g fun w' s3 I3 rw' => ⟨v, H2, I3, rw', q2⟩⟩
theorem pc_nin (hu : X.A.units + 64 < cLine) (hi : PE X i ty) (ho : PE X o td) : PC X .In i o (tNIn X.prog X.w ty td) := by
  refine ⟨fun pins s σ H Q I h => ?_⟩
  refine thn (hi.run pins s σ H _ I h) fun iv s1 ⟨y, H1, I1, ry, q1⟩ => thn (ho.run pins s1 σ H1 _ I1 q1) fun u s2 ⟨x, H2, I2, rx, kvs, k, a, b, ⟨ex, ey, d, hk, hd⟩, q2⟩ => ?_
  subst ex ey
  obtain rfl : u = Value.ref a := rx
  obtain rfl : iv = Value.ref b := ry
  exact nd_in hu I2 d hk hd fun s3 I3 => ⟨.bl _, H2, I3, rfl, q2⟩
theorem pc_nnotin (hu : X.A.units + 64 < cLine) (hi : PE X i ty) (ho : PE X o td) : PC X .NotIn i o (tNNotIn X.prog X.w ty td) := by
  refine ⟨fun pins s σ H Q I h => ?_⟩
  refine thn (hi.run pins s σ H _ I h) fun iv s1 ⟨y, H1, I1, ry, q1⟩ => thn (ho.run pins s1 σ H1 _ I1 q1) fun u s2 ⟨x, H2, I2, rx, kvs, k, a, b, ⟨ex, ey, d, hk, hd⟩, q2⟩ => ?_
  subst ex ey
  obtain rfl : u = Value.ref a := rx
  obtain rfl : iv = Value.ref b := ry
  exact nd_notIn hu I2 d hk hd fun s3 I3 => ⟨.bl _, H2, I3, rfl, q2⟩
theorem ps_nput (hu : X.A.units + 64 < cLine) (ho : PE X o td) (hi : PE X i ty) (hv : PE X value tv) (hs : swapsWith value (some (.Subscript o i pos')) pos.line X.env = pure false) :
    PS X (.Assign [.Subscript o i pos'] value pos) (sNPut X.prog X.w td ty tv) := by
  refine ⟨fun pins s σ H D I h => ?_⟩
  refine wpAny_Assign_Subscript (thn (hv.run pins s σ H _ I h) fun r s1 ⟨v, H1, I1, rv, q1⟩ => thn (ho.run pins s1 σ H1 _ I1 q1) fun u s2 ⟨x, H2, I2, rx, q2⟩ => thn (hi.run pins s2 σ H2 _ I2 q2) fun iv s3 ⟨y, H3, I3, ry, kvs, k, a, b, ⟨ex, ey, d, hk, hd⟩, hz, q3⟩ => ?_) hs
  subst ex ey
  obtain rfl : u = Value.ref a := rx
  obtain rfl : iv = Value.ref b := ry
  exact nd_setItem hu I3 d hk hd hz rv fun s4 I4 => ⟨σ, _, I4, q3⟩
theorem pe_nnew : PE X (.Dict [] [] pos) (tNNew X.prog X.w) := ⟨fun pins s σ H Q I h =>
  wpAny_Dict_empty ⟨.ref s.heap.objs.size, _, I.laid (a := s.heap.objs.size) (o := NDO X.prog X.w s.heap.objs.size []) (t' := s.toks) (fun _ _ q => Heap.get?_push_of_some _ q) (Nat.le_refl _) (nd_empty s.heap I.big), rfl, h _ (I.hok.fresh (Nat.le_refl _))⟩⟩
theorem pe_ndisp (hu : X.A.units + 64 < cLine) (hk : PE X kx tk) (hv : PE X vx tv) : PE X (.Dict [some kx] [vx] pos) (tNDisp X.prog X.w tk tv) := by
  refine ⟨fun pins s σ H Q I q => ?_⟩
  have hn := I.hok.fresh (Nat.le_refl s.heap.objs.size)
  have I1 := I.laid (a := s.heap.objs.size) (o := NDO X.prog X.w s.heap.objs.size []) (h' := s.heap.push { cls := .type "dict", data := .dict #[] }) (t' := s.toks) (fun _ _ q => Heap.get?_push_of_some _ q) (Nat.le_refl _) (nd_empty s.heap I.big)
  have hp : PPs X pos [some kx] [vx] [(tk, tv)] := pps_cons hk hv pps_nil
  have hr : (nestedKind X.prog X.w).room X.A := by
    show X.A.units + 8 < cLine
    omega
  rw [arm_eval_Dict, zip_pairTrees [some kx] [vx] X.env pos rfl rfl, dictDisplay_pairs _ (by intro z; cases z) (by rw [pairTrees_length _ _ _ _ rfl rfl]; show 1 < 17; decide)]
  refine wpAny_bind (wpAny_standAt (wpAny_bind (wpAny_subDictH (knd := nestedKind X.prog X.w) (Q := fun d s' => wpAny (model X.prog X.w) X.A (pure (Value.ref d)) (EP X pins σ Q) X.xe s') hr (by rw [pairTrees_length _ _ _ _ rfl rfl]; show 1 ≤ 15; decide) ?_)))
  refine thn (hp.run pins _ σ _ _ I1 (q _ hn)) fun ws s2 ⟨ps, H2, I2, rel, y, v, ep, e, k, b, ey, hk', hd, q2⟩ => ?_
  · subst ep ey
    cases rel with
    | @cons p q ps qs h t =>
      cases t
      obtain ⟨q1, q2'⟩ := q
      obtain ⟨r1, r2⟩ := h
      obtain rfl : q1 = Value.ref b := r1
      obtain ⟨hs, z, xs, r, dd⟩ := nd_rd I2.hok (DN.nil e)
      cases r
      refine ⟨[(k, b, q2')], ⟨rfl, rfl, nd_key I2 hk' hd, trivial⟩, dd, fun h' tk' dd' hsb => wpAny_pure ?_⟩
      have he : ∃ q, h'.get? s.heap.objs.size = some q := let ⟨q, _, _, hq, _⟩ := dd'; ⟨q, hq⟩
      exact ⟨.ref s.heap.objs.size, _, d_write I2 (by rw [e]; exact True.intro) hsb he (nd_ok (kvs := [(k, b, v)]) hs (by show 1 ≤ sizeLine; decide) (.cons ⟨rfl, rfl, r2⟩ .nil) dd'), rfl, q2⟩
end
end My

set_option Elab.async false
set_option maxRecDepth 100000
set_option maxHeartbeats 4000000
set_option linter.all false
/-! Walks over dicts whose keys are nested tuples; list(d), len(d). -/
namespace My
open PySem PySem.Spec PyProof.Rows L2
section
variable {prog : Program} {w : World} {A : Around} {E : Value → Shared → Prop} {s : Shared}
/-- the raw object at d -/
def RawD (h : Heap) (d : Addr) (es : Array DictEntry) (ep : Nat) : Prop := ∃ o, h.get? d = some o ∧ o.ExactDict ∧ o.data = .dict es ep
theorem raw_walks (hh : A.handled = none) (I d : Addr) (hne : d ≠ I) (es : Array DictEntry) (ep : Nat) :
    Walks prog w A I [I, d] [I] es.size (fun i v => ∃ en, es[i]? = some en ∧ v = en.key) (fun i h => h.IsKeyIter I d i es.size ep ∧ RawD h d es ep) where
  sub := fun b hb => by simp at hb; simp [hb]
  frame := fun _ _ _ st hk => ⟨st.1.at fun o e => hk I (by simp) o e, let ⟨o, ho, r⟩ := st.2; ⟨o, hk d (by simp) o ho, r⟩⟩
  item := fun i s Q E hi st hQ => by
    obtain ⟨o, ho, hc, hd⟩ := id st.2
    obtain ⟨en, hx⟩ : ∃ en, es[i]? = some en := ⟨es[i], by simp [hi]⟩
    refine next_key_item st.1 ho hd rfl hx fun h' hit' hs' => ?_
    exact hQ en.key h' s.toks ⟨en, hx, rfl⟩ ⟨hit', o, hs'.extBut d o hne ho, hc, hd⟩ fun b o hb e => hs'.extBut b o (fun h => hb (by simp [h])) e
  done := fun s Q E st hQ => by
    obtain ⟨o, ho, hc, hd⟩ := id st.2
    exact next_key_end hh st.1 ho hd rfl (Nat.le_refl _) fun h' he' => hQ h' s.toks fun b o hb e => he' b o (fun h => hb (by simp [h])) e
  self := fun _ _ _ _ st hQ => wpAny_pyIter_keyiter st.1 hQ
theorem raw_src {d : Addr} {es : Array DictEntry} {ep : Nat} (lo : (d == sysModules) = false) : PySem.W.KdlSrc prog w "dict" d d es.size (fun i v => ∃ en, es[i]? = some en ∧ v = en.key) (fun h => RawD h d es ep) where
  type := fun s hm => let ⟨o, ho, hc, _⟩ := hm; ⟨o, ho, hc.1⟩
  there := fun _ hm => let ⟨o, ho, _⟩ := hm; ⟨Heap.lt_size ho, Heap.lt_size ho⟩
  keep := fun _ _ hm hk => let ⟨o, ho, r⟩ := hm; ⟨o, hk d (.inl rfl) o ho, r⟩
  notList := by decide
  notTuple := by decide
  hint := fun _ _ s _ hm hq => PySem.W.kdl_hint_dict (let ⟨o, ho, hc, _⟩ := hm; ⟨o, ho, hc.1⟩) hq
  iter := fun _ s hh hm => by
    obtain ⟨o, ho, hc, hd⟩ := id hm
    refine ⟨_, _, (fun _ _ hq => iter_keys lo ho hc hd hq), raw_walks hh _ d (Nat.ne_of_lt (Heap.lt_size ho)) es ep, ⟨⟨_, Heap.get?_push_size _ rfl, rfl, rfl⟩, o, Heap.get?_push_of_some _ ho, hc, hd⟩⟩
theorem len_nd {d : Addr} {xs : List (NestedKey × Addr × Value)} {Q : Value → Shared → Prop} (hd : (d == sysModules) = false) (hm : s.heap.DictOfH (nestedKind prog w) d xs) (hfit : (xs.length : Int) < 2 ^ 63)
    (h : Q (.int xs.length (s.toks + 1)) { s with toks := s.toks + 1 + 1 }) : wpAny (model prog w) A (call (.builtin "len") [.ref d]) Q E s := by
  have hk : s.heap.DictKeyed (nestedKind prog w) d (pairsH xs) := ⟨xs, hm, rfl⟩
  have hl : (pairsH xs).length = xs.length := by
    unfold pairsH
    rw [List.length_map]
  refine Calls.call_function_entry kind_len plain_len entry_len (args_len1 _) ?_
  unfold Builtin.«len»
  refine wpAny_bind (m := oneArg "len" _) (wpAny_pure ?_)
  refine wpAny_bind (m := callSpecial? (.ref d) (Str.ofString "__len__")) (wpAny_callSpecial?_slot (name := Str.ofString "__len__") hm.typeIs F.slot_dict_len (len_keyed hd hk ?_))
  rw [hl]
  show wpAny _ _ _ _ _ { s with toks := s.toks + 1 }
  refine wpAny_bind (wpAny_holding (wpAny_pure ?_))
  refine wpAny_bind (wpAny_letGo ?_)
  show wpAny _ _ (if ((xs.length : Nat) : Int) < 0 then _ else _) _ _ _
  rw [if_neg (by omega)]
  show wpAny _ _ (if ((xs.length : Nat) : Int) ≥ 2 ^ 63 then _ else _) _ _ _
  rw [if_neg (by omega)]
  exact wpAny_bind (wpAny_mkInt (wpAny_pure ⟨_, rfl, h⟩))
end
section
variable {X : Cx} {pins : List (Addr × Obj)} {σ : L2.St} {H : Hp} {s : Shared} {a : Addr} {kvs : List NE}
theorem nd_raw (I : Inv X pins σ H s) (e : H a = some (NDO X.prog X.w a kvs)) : (a == sysModules) = false ∧ kvs.length ≤ sizeLine ∧ ∃ xs es ep, Paired RelE kvs xs ∧ RawD s.heap a es ep ∧ es.toList = xs.map (entryOfKey (nestedKind X.prog X.w)) := by
  obtain ⟨⟨h1, h2, xs, r, o, es, ep, q1, q2, q3, q4⟩, _, _⟩ := (show ObjOk X.prog X.w H s.heap a (NDO X.prog X.w a kvs) from I.hok a _ e)
  exact ⟨h1, h2, xs, es, ep, r, ⟨o, q1, q2, q3⟩, q4⟩
theorem raw_keys : ∀ {kvs : List NE} {xs : List (NestedKey × Addr × Value)}, Paired RelE kvs xs → Vals (kvs.map fun e => V.ref e.2.1) (xs.map fun x => Value.ref x.2.1)
  | _, _, .nil => .nil
  | _, _, .cons h q => .cons (by dsimp only; rw [h.2.1]; rfl) (raw_keys q)
theorem raw_all {xs : List (NestedKey × Addr × Value)} {es : Array DictEntry} (he : es.toList = xs.map (entryOfKey (nestedKind X.prog X.w))) {acc : List Value} (hl : acc.length = es.size) (h : ∀ (j : Nat) (v : Value), acc[j]? = some v → ∃ en, es[j]? = some en ∧ v = en.key) : acc = xs.map fun x => Value.ref x.2.1 := by
  have l1 : es.size = xs.length := size_of_entries he
  refine List.ext_getElem? fun j => ?_
  by_cases hj : j < acc.length
  · obtain ⟨en, e1, e2⟩ := h j _ (List.getElem?_eq_getElem hj)
    have e3 := entry_at he j
    rw [e1, List.getElem?_eq_getElem (show j < xs.length by omega)] at e3
    rw [List.getElem?_eq_getElem hj, List.getElem?_map, List.getElem?_eq_getElem (show j < xs.length by omega), e2]
    cases e3
    rfl
  · rw [List.getElem?_eq_none (by omega), List.getElem?_eq_none (by rw [List.length_map]; omega)]
/-- list(d): its keys -/
theorem call_listN (hcalm : X.calm = true) : CallR X (.type "list") (fun xs H Q => ∃ (a : Addr) (kvs : List NE), xs = [.ref a] ∧ H a = some (NDO X.prog X.w a kvs) ∧ ∀ p, H p = none → Q (.ref p) (upd H p (.lst (kvs.map fun e => V.ref e.2.1)))) := by
  intro pins s σ H xs us Q I r q
  obtain ⟨a, kvs, ex, hd, q⟩ := q
  subst ex
  obtain ⟨u, eu, rx⟩ := vals1 r
  subst eu
  cases rx
  obtain ⟨lo, z, ys, es, ep, pr, raw, he⟩ := nd_raw I hd
  have l1 : es.size = ys.length := size_of_entries he
  have l2 : kvs.length = ys.length := Paired.length pr
  refine PySem.W.kdl_call (raw_src (es := es) (ep := ep) lo) (I.ok.hd hcalm) raw (by omega) fun h' tk acc c' hk hD hacc => ?_
  have ha : acc.toList = ys.map fun x => Value.ref x.2.1 := raw_all (X := X) he (by rw [Array.length_toList]; exact hacc.1) fun j v e => hacc.2 j v (by rw [← Array.getElem?_toList]; exact e)
  refine ⟨.ref s.heap.objs.size, upd H s.heap.objs.size (.lst (kvs.map fun e => V.ref e.2.1)), I.laid (t' := tk) hk (Nat.le_refl _)
    (show ObjOk X.prog X.w _ _ _ (.lst (kvs.map fun e => V.ref e.2.1)) from ⟨by rw [List.length_map]; exact z, acc.toList, c', by rw [ha]; exact raw_keys pr, by rw [Array.toArray_toList]; exact hD⟩), rfl, q _ (I.hok.fresh (Nat.le_refl _))⟩
/-- len(d) -/
theorem call_lenN : CallR X (.builtin "len") (fun xs H Q => ∃ (a : Addr) (kvs : List NE), xs = [.ref a] ∧ DN X.prog X.w H a kvs ∧ Q (.int kvs.length) H) := by
  intro pins s σ H xs us Q I r q
  obtain ⟨a, kvs, ex, hd, q⟩ := q
  subst ex
  obtain ⟨u, eu, rx⟩ := vals1 r
  subst eu
  cases rx
  obtain ⟨lo, z, ys, pr, dd⟩ := nd_rd I.hok hd
  have l2 : kvs.length = ys.length := Paired.length pr
  rw [sizeLine_eq] at z
  refine len_nd lo dd (by omega) ?_
  rw [← l2]
  exact ⟨.int _, H, I.tok _, ⟨_, rfl⟩, q⟩
end
/-! ### for k in d -/
/-- the keys' own tuples, the dict locked -/
def Itn (P : Program) (w : World) (d : Addr) (o : Obj) (kvs : List NE) : It :=
  ⟨fun i H => H d = some (.frz o (NDO P w d kvs)) ∧ i < kvs.length, fun i H x H' => H' = H ∧ ∃ e, kvs[i]? = some e ∧ x = .ref e.2.1, fun i H => H d = some (.frz o (NDO P w d kvs)) ∧ kvs.length ≤ i⟩
section
variable {X : Cx} {pins : List (Addr × Obj)} {σ : L2.St} {H : Hp} {s : Shared} {d : Addr} {o : Obj} {kvs : List NE}
theorem frzN (I : Inv X pins σ H s) (h : H d = some (.frz o (NDO X.prog X.w d kvs))) :
    (d == sysModules) = false ∧ s.heap.get? d = some o ∧ o.ExactDict ∧ ∃ (es : Array DictEntry) (ep : Nat), o.data = .dict es ep ∧ es.size = kvs.length ∧
      ∀ (i : Nat) (e : NE), kvs[i]? = some e → ∃ en : DictEntry, es[i]? = some en ∧ en.key = .ref e.2.1 := by
  obtain ⟨hd, ⟨hs, z, xs, pr, o', es, ep, ho, hx, hdt, he⟩, _⟩ := I.hok d _ h
  rw [hd] at ho
  cases ho
  refine ⟨hs, hd, hx, es, ep, hdt, ?_, fun i e ei => ?_⟩
  · have l1 : es.size = xs.length := size_of_entries he
    have l2 : kvs.length = xs.length := Paired.length pr
    omega
  · obtain ⟨b, hb, e1, e2, _⟩ := L2.paired_get pr ei
    have q := entry_at he i
    rw [hb] at q
    exact ⟨_, q, by show Value.ref b.2.1 = _; rw [e2]⟩
end
section
variable {P : Program} {w : World} {K : PySem.W.Frag} {tg : Expr} {d : Addr} {o : Obj} {es : Array DictEntry} {ep : Nat}
theorem turn_keysN {kvs : List NE} (it : Addr) (hod : o.data = .dict es ep) : Turn P w K tg (Itn P w d o kvs) [it] it (fun i h => h.IsKeyIter it d i kvs.length ep) where
  mem := by simp
  obj := fun i h st b hb => by
    have e : b = it := by simpa using hb
    subst e
    obtain ⟨oi, e, c, dd⟩ := st
    exact ⟨oi, e, fun v z => by rw [dd] at z; cases z⟩
  keep := fun i h h' st k => st.at fun oi e => k it (by simp) oi e
  item := by
    intro X hP hw hK hc i pins s σ H E I hf st hg
    subst hP hw hK
    obtain ⟨hd, hi⟩ := hg
    obtain ⟨f0, f1, f2, f3, f4, f5⟩ := hf it (by simp)
    obtain ⟨hs, hgd, hx, es', ep', hdt, hsz, ent⟩ := frzN I hd
    obtain ⟨rfl, rfl⟩ := dict_ep hod hdt
    obtain ⟨e, hkv⟩ : ∃ p, kvs[i]? = some p := ⟨kvs[i], List.getElem?_eq_getElem hi⟩
    obtain ⟨en, hen, hkey⟩ := ent i e hkv
    refine next_key_item st hgd hdt hsz hen fun h' st' sb => ?_
    have I1 : Inv X pins σ H { s with heap := h' } := I.turned (t' := s.toks) (fun b ob hb e => (sb.2 b hb).trans e) f0 f1 f3 f4 f5
    obtain ⟨oi, e', c, dd⟩ := id st'
    exact ⟨en.key, rfl, go_of (s := { s with heap := h' }) e' c dd (by decide) ⟨.ref e.2.1, H, I1, hkey, ⟨rfl, e, hkv, rfl⟩, st', fun b hb => (hf b hb).1⟩⟩
  done := by
    intro X hP hw hK hc i pins s σ H E I hf st hg
    subst hP hw hK
    obtain ⟨hd, hi⟩ := hg
    obtain ⟨f0, f1, f2, f3, f4, f5⟩ := hf it (by simp)
    obtain ⟨hs, hgd, hx, es', ep', hdt, hsz, ent⟩ := frzN I hd
    obtain ⟨rfl, rfl⟩ := dict_ep hod hdt
    exact next_key_end (I.ok.hd hc) st hgd hdt hsz hi fun h' eb => ⟨rfl, I.turned (t' := s.toks) (fun b ob hb e => eb b ob hb e) f0 f1 f3 f4 f5⟩
  self := fun A i s Q E st h => wpAny_pyIter_keyiter st h
end
def iKeysN (P : Program) (w : World) (td : TE) : TI := fun σ H R => td σ H fun x H1 => ∃ d o kvs, x = .ref d ∧ H1 d = some (.frz o (NDO P w d kvs)) ∧ R (Itn P w d o kvs) H1
theorem pi_keysN {X : Cx} {tg e : Expr} {td : TE} (he : PE X e td) : PI X tg e (iKeysN X.prog X.w td) := by
  refine ⟨fun pins s σ H R I h => ?_⟩
  refine thn (he.run pins s σ H _ I h) fun u s1 ⟨x, H1, I1, rx, d, o, kvs, ex, hd, q⟩ => ?_
  subst ex
  obtain rfl : u = Value.ref d := rx
  obtain ⟨hs, hgd, hx, es, ep, hdt, hsz, ent⟩ := frzN I1 hd
  refine iter_keys hs hgd hx hdt (pi_one (tk := s1.toks) I1 _ (turn_keysN _ hdt) ⟨_, Heap.get?_push_size _ rfl, rfl, ?_⟩ q)
  rw [hsz] <;> rfl
def YNt (kvs : List NE) : Nat → Hp → V → Hp → Prop := fun i H x H' => H' = H ∧ ∃ e, kvs[i]? = some e ∧ x = .ref e.2.1
theorem walk_keysN {P : Program} {w : World} {d : Addr} {o : Obj} {kvs : List NE} : Walk (Itn P w d o kvs) kvs.length (fun H => H d = some (.frz o (NDO P w d kvs))) (YNt kvs) :=
  ⟨fun i H hi h => ⟨h, hi⟩, fun H h => ⟨h, Nat.le_refl _⟩, fun i H v H' hi h y => y⟩
end My

set_option Elab.async false
set_option maxRecDepth 100000
set_option maxHeartbeats 4000000
set_option linter.all false
/-! Data made of tuples alone: nothing that changes lies in it. -/
namespace My
open PySem PySem.Spec PyProof.Rows L2
mutual
inductive Tp (H : Hp) : V → PyData → Prop
  | non : Tp H .non .none
  | bl (b : Bool) : Tp H (.bl b) (.bool b)
  | int (i : Int) : Tp H (.int i) (.int i)
  | str (x : Str) : Tp H (.str x) (.str x)
  | tup {a : Addr} {xs : List V} {ds : List PyData} : H a = some (.tup xs) → TpAll H xs ds → Tp H (.ref a) (.tuple ds)
inductive TpAll (H : Hp) : List V → List PyData → Prop
  | nil : TpAll H [] []
  | cons {v : V} {vs : List V} {d : PyData} {ds : List PyData} : Tp H v d → TpAll H vs ds → TpAll H (v :: vs) (d :: ds)
end
/-- the tuples stay -/
def KeepT (H H' : Hp) : Prop := ∀ a xs, H a = some (.tup xs) → H' a = some (.tup xs)
theorem KeepT.refl (H : Hp) : KeepT H H := fun _ _ e => e
theorem KeepT.trans {H H1 H2 : Hp} (a : KeepT H H1) (b : KeepT H1 H2) : KeepT H H2 := fun x o e => b _ _ (a _ _ e)
theorem KeepT.same {H H' : Hp} (s : Same H H') : KeepT H H' := fun a xs e => s _ _ e
theorem KeepT.lst {H : Hp} {a : Addr} {xs : List V} {o : HO} (e : H a = some (.lst xs)) : KeepT H (upd H a o) := fun b ys eb => by
  rw [upd_ne (ne_of eb e (fun z => by cases z))]
  exact eb
theorem KeepT.ext {H : Hp} {a : Addr} {φ : Heap → Prop} {o : HO} (e : H a = some (.ext φ)) : KeepT H (upd H a o) := fun b ys eb => by
  rw [upd_ne (ne_of eb e (fun z => by cases z))]
  exact eb
theorem KeepT.frz {H : Hp} {a : Addr} {ob : Obj} {u o : HO} (e : H a = some (.frz ob u)) : KeepT H (upd H a o) := fun b ys eb => by
  rw [upd_ne (ne_of eb e (fun z => by cases z))]
  exact eb
theorem KeepT.but {H H' : Hp} {m : Addr} {xs : List V} (b : But m H H') (e : H m = some (.lst xs)) : KeepT H H' := fun c ys ec => b _ _ ec (ne_of ec e (fun z => by cases z))
mutual
theorem Tp.mono {H H' : Hp} (s : KeepT H H') : ∀ {v : V} {d : PyData}, Tp H v d → Tp H' v d
  | _, _, .non => .non
  | _, _, .bl b => .bl b
  | _, _, .int i => .int i
  | _, _, .str x => .str x
  | _, _, .tup e q => .tup (s _ _ e) (TpAll.mono s q)
theorem TpAll.mono {H H' : Hp} (s : KeepT H H') : ∀ {vs : List V} {ds : List PyData}, TpAll H vs ds → TpAll H' vs ds
  | _, _, .nil => .nil
  | _, _, .cons h q => .cons (Tp.mono s h) (TpAll.mono s q)
end
/-- no tuple stands at m -/
def NoT (H : Hp) (m : Addr) : Prop := ∀ xs, H m ≠ some (.tup xs)
theorem NoT.lst {H : Hp} {m : Addr} {xs : List V} (e : H m = some (.lst xs)) : NoT H m := fun ys z => by
  rw [e] at z
  cases z
theorem NoT.none {H : Hp} {m : Addr} (e : H m = none) : NoT H m := fun ys z => by
  rw [e] at z
  cases z
mutual
theorem Tp.at {H : Hp} {m : Addr} (n : NoT H m) : ∀ {v : V} {d : PyData}, Tp H v d → At m H v d
  | _, _, .non => .non
  | _, _, .bl b => .bl b
  | _, _, .int i => .int i
  | _, _, .str x => .str x
  | _, _, .tup e q => .tup (fun z => n _ (z ▸ e)) e (TpAll.at n q)
theorem TpAll.at {H : Hp} {m : Addr} (n : NoT H m) : ∀ {vs : List V} {ds : List PyData}, TpAll H vs ds → AtAll m H vs ds
  | _, _, .nil => .nil
  | _, _, .cons h q => .cons (Tp.at n h) (TpAll.at n q)
end
mutual
/-- tuples alone -/
def isT : PyData → Bool
  | .none => true
  | .bool _ => true
  | .int _ => true
  | .str _ => true
  | .tuple ds => isTAll ds
  | .list _ => false
  | .dict _ => false
def isTAll : List PyData → Bool
  | [] => true
  | d :: ds => isT d && isTAll ds
end
mutual
theorem At.tp {H : Hp} {m : Addr} : ∀ {v : V} {d : PyData}, At m H v d → isT d = true → Tp H v d
  | _, _, .non, _ => .non
  | _, _, .bl b, _ => .bl b
  | _, _, .int i, _ => .int i
  | _, _, .str x, _ => .str x
  | _, _, .tup n e q, h => .tup e (AtAll.tp q (by simpa only [isT] using h))
  | _, _, .lst n e q, h => by simp [isT] at h
theorem AtAll.tp {H : Hp} {m : Addr} : ∀ {vs : List V} {ds : List PyData}, AtAll m H vs ds → isTAll ds = true → TpAll H vs ds
  | _, _, .nil, _ => .nil
  | _, _, .cons h q, e => by
    simp only [isTAll, Bool.and_eq_true] at e
    exact .cons (At.tp h e.1) (AtAll.tp q e.2)
end
mutual
/-- the key that such data is -/
def keyOf : PyData → NestedKey
  | .none => .none
  | .bool b => .num (if b = true then 1 else 0)
  | .int i => .num i
  | .str x => .text x
  | .tuple ds => .tup (keysOf ds)
  | .list _ => .none
  | .dict _ => .none
def keysOf : List PyData → List NestedKey
  | [] => []
  | d :: ds => keyOf d :: keysOf ds
end
mutual
theorem Tp.key {H : Hp} : ∀ {v : V} {d : PyData}, Tp H v d → KtV H v (keyOf d)
  | _, _, .non => .non
  | _, _, .bl b => .bl b
  | _, _, .int i => .int i
  | _, _, .str x => .str x
  | _, _, .tup e q => .tup e (TpAll.key q)
theorem TpAll.key {H : Hp} : ∀ {vs : List V} {ds : List PyData}, TpAll H vs ds → KtAll H vs (keysOf ds)
  | _, _, .nil => .nil
  | _, _, .cons h q => .cons (Tp.key h) (TpAll.key q)
end
theorem TpAll.length {H : Hp} : ∀ {vs : List V} {ds : List PyData}, TpAll H vs ds → vs.length = ds.length
  | _, _, .nil => rfl
  | _, _, .cons _ q => by rw [List.length_cons, List.length_cons, TpAll.length q]
theorem TpAll.get {H : Hp} : ∀ {vs : List V} {ds : List PyData} {i : Nat} {v : V}, TpAll H vs ds → vs[i]? = some v → ∃ d, ds[i]? = some d ∧ Tp H v d
  | _, _, _, _, .nil, e => by simp at e
  | _, _, 0, _, .cons h _, e => by
    simp at e
    subst e
    exact ⟨_, rfl, h⟩
  | _, _, i + 1, v, .cons _ q, e => by
    obtain ⟨d, h1, h2⟩ := TpAll.get (i := i) (v := v) q (by simpa using e)
    exact ⟨d, by simpa using h1, h2⟩
theorem TpAll.append {H : Hp} {v : V} {d : PyData} : ∀ {vs : List V} {ds : List PyData}, TpAll H vs ds → Tp H v d → TpAll H (vs ++ [v]) (ds ++ [d])
  | _, _, .nil, h => .cons h .nil
  | _, _, .cons h q, e => .cons h (TpAll.append q e)
theorem Tp.ref {H : Hp} {v : V} {ds : List PyData} (h : Tp H v (.tuple ds)) : ∃ a xs, v = .ref a ∧ H a = some (.tup xs) ∧ TpAll H xs ds := by
  cases h with
  | tup e q => exact ⟨_, _, rfl, e, q⟩
end My

set_option Elab.async false
set_option maxRecDepth 100000
set_option maxHeartbeats 4000000
set_option linter.all false
/-! sorted(xs) of data that are alike, nested to any depth. -/
namespace My
open PySem PySem.Spec PyProof.Rows L2
open PySem.W (EachIs)
abbrev tokLe (x y : PyData) : Bool := PySem.W.sortLe (PyProof.Rows.listOrd itemOrd) false PySem.W.keyToks x y
/-- the data, sorted -/
def srtD (ds : List PyData) : List PyData := ds.mergeSort tokLe
def rSrtN (K : PySem.W.Frag) : List V → Hp → VK → Prop := fun xs H Q => ∃ (m a : Addr) (vs : List V) (ds : List PyData), xs = [.ref a] ∧ SqL K H a vs ∧ AtAll m H vs ds ∧ PySem.W.AllAlike ds ∧ PySem.W.Sortable ds ∧ (∀ d ∈ ds, d.depth ≤ 50) ∧
  ∀ (ys : List V) (p : Addr), H p = none → AtAll m H ys (srtD ds) → Q (.ref p) (upd H p (.lst ys))
theorem each_at {X : Cx} {pins : List (Addr × Obj)} {σ : L2.St} {H : Hp} {s : Shared} {m : Addr} (I : Inv X pins σ H s) : ∀ {vs : List V} {ds : List PyData} {its : List Value}, AtAll m H vs ds → Vals vs its →
    PySem.W.EachIs (fun u (b : V × PyData) => RelV b.1 u ∧ At m H b.1 b.2) its (vs.zip ds) ∧ PySem.W.EachIs (fun u d => ∃ as, Reads s.heap u d as) its ds
  | _, _, _, .nil, .nil => ⟨.nil, .nil⟩
  | _, _, _, .cons h q, .cons r rr => by
    obtain ⟨a, b⟩ := each_at I q rr
    exact ⟨.cons ⟨r, h⟩ a, .cons (Dp.reads I _ _ _ h.dp r) b⟩
theorem back_at {m : Addr} {H : Hp} : ∀ {its : List Value} {bs : List (V × PyData)}, PySem.W.EachIs (fun u (b : V × PyData) => RelV b.1 u ∧ At m H b.1 b.2) its bs → Vals (bs.map Prod.fst) its ∧ AtAll m H (bs.map Prod.fst) (bs.map Prod.snd)
  | _, _, .nil => ⟨.nil, .nil⟩
  | _, _, .cons h q => by
    obtain ⟨a, b⟩ := back_at q
    exact ⟨.cons h.1 a, .cons h.2 b⟩
theorem each_snd {R : Value → PyData → Prop} : ∀ {its : List Value} {vs : List V} {ds : List PyData}, vs.length = ds.length → PySem.W.EachIs R its ds → PySem.W.EachIs (fun u (b : V × PyData) => R u b.2) its (vs.zip ds)
  | [], [], [], _, .nil => .nil
  | [], _ :: _, [], h, _ => by cases h
  | _ :: _, [], _ :: _, h, _ => by cases h
  | _ :: _, v :: vs, d :: ds, h, .cons a b => .cons a (each_snd (by simpa using h) b)
theorem cr_sortedN {X : Cx} (hu : X.A.units + 64 < cLine) : CallR X (.builtin "sorted") (rSrtN X.K) := by
  intro pins s σ H xs us Q I r h
  obtain ⟨m, a, vs, ds, rfl, hs, hat, hal, hsb, hdp, q⟩ := h
  obtain ⟨u, rfl, ru⟩ := vals1 r
  obtain rfl : u = Value.ref a := ru
  obtain ⟨its, rv, hl, hz⟩ := I.list hs
  obtain ⟨e1, e2⟩ := each_at I hat rv
  have hlen : its.length ≤ sizeLine := by
    rw [← rv.length]
    exact hz
  have hr2 : ∀ {u : Value} {d : PyData}, (∃ as, Reads s.heap u d as) → ∃ as, Reads (PySem.W.sortingHeap (PySem.W.copyHeap s.heap its) (s.heap.objs.size + 1) its) u d as := fun {u d} ⟨as, h⟩ =>
    ⟨as, PyProof.Rows.Reads.keeps (fun b o e => PySem.W.sorting_copy_old e) h⟩
  have e3 := e2.mono fun u d h => hr2 h
  refine PySem.W.sorted_vals hl.isList (κ := PySem.W.dataKind (PySem.W.sortingHeap (PySem.W.copyHeap s.heap its) (s.heap.objs.size + 1) its) ds) (.data e3 hal hsb fun d hd => ?_) hlen ?_
  · have := hdp d hd
    show X.A.in1.in1.units + d.depth < cLine
    have : X.A.in1.in1.units = X.A.units + 2 := rfl
    omega
  · have e4 : PySem.W.EachIs (fun v d => (PySem.W.dataKind (PySem.W.sortingHeap (PySem.W.copyHeap s.heap its) (s.heap.objs.size + 1) its) ds).keyOf v = some (PySem.W.keyToks d)) its ds := by
      refine (PySem.W.each_mem e3).mono ?_
      rintro v d ⟨⟨as, h⟩, hd⟩
      exact PySem.W.dataKind_some hal hd h
    have e5 := PySem.W.sortVals_each (κ := PySem.W.dataKind (PySem.W.sortingHeap (PySem.W.copyHeap s.heap its) (s.heap.objs.size + 1) its) ds) (rev := false) (fun b : V × PyData => PySem.W.keyToks b.2) e1 (each_snd hat.length e4)
    obtain ⟨b1, b2⟩ := back_at e5
    obtain ⟨ep, he'⟩ := PyProof.Rows.sortedAll_at s.heap its (PySem.W.sortVals (PySem.W.dataKind (PySem.W.sortingHeap (PySem.W.copyHeap s.heap its) (s.heap.objs.size + 1) its) ds) false its its).toArray
    have hl2 := PySem.W.sortVals_length (κ := PySem.W.dataKind (PySem.W.sortingHeap (PySem.W.copyHeap s.heap its) (s.heap.objs.size + 1) its) ds) false (ks := its) (vs := its) rfl
    refine ⟨.ref (s.heap.objs.size + 1), _, I.laid (t' := s.toks) (a := s.heap.objs.size + 1) (o := .lst _) (fun _ _ => PyProof.Rows.sortedAll_old) (Nat.le_succ _) ⟨?_, _, ep, b1, he'⟩, rfl, q _ _ (I.hok.fresh (Nat.le_succ _)) ?_⟩
    · rw [b1.length, hl2]
      exact hlen
    · have e6 := PySem.W.sort_maps (r := PySem.W.sortLe (PyProof.Rows.listOrd itemOrd) false fun b : V × PyData => PySem.W.keyToks b.2) (s := tokLe) Prod.snd (l := vs.zip ds) (fun a _ b _ => rfl)
      have e7 : (vs.zip ds).map Prod.snd = ds := List.map_snd_zip (by rw [hat.length]; exact Nat.le_refl _)
      rw [e7] at e6
      have b3 : AtAll m H _ (((vs.zip ds).mergeSort (PySem.W.sortLe (PyProof.Rows.listOrd itemOrd) false fun b : V × PyData => PySem.W.keyToks b.2)).map Prod.snd) := b2
      rw [e6] at b3
      exact b3
end My

set_option Elab.async false
set_option maxRecDepth 100000
set_option maxHeartbeats 4000000
set_option linter.all false
namespace C81
open PySem L2 My M78
abbrev sWay : Stmt := top 23
abbrev nWay : List Str := ["before", "state", "found", "at"]
theorem scWay : FnScope nWay ["before", "state"] (defScope sWay) := ⟨rfl, rfl, rfl, by decide +kernel, rfl, by decide +kernel, by decide +kernel⟩

theorem small7 {n : Nat} (h : n < 8000000) : n < sizeLine := Nat.lt_trans h (by decide)
/-! states as keys -/
def sk (xs : List Row) : NestedKey := keyOf (stD xs)
theorem b2n_inj {a b : Bool} (h : (if a = true then (1 : Int) else 0) = (if b = true then 1 else 0)) : a = b := by cases a <;> cases b <;> first | rfl | (simp at h)
theorem keysOf_inj : ∀ {xs ys : List Row}, keysOf (xs.map rowD) = keysOf (ys.map rowD) → xs = ys
  | [], [], _ => rfl
  | [], _ :: _, h => by cases h
  | _ :: _, [], h => by cases h
  | x :: xs, y :: ys, h => by
    injection h with h1 h2
    have h3 : NestedKey.tup [.num x.p, .num (if x.o = true then 1 else 0), .num (if x.r = true then 1 else 0), .num x.l] = .tup [.num y.p, .num (if y.o = true then 1 else 0), .num (if y.r = true then 1 else 0), .num y.l] := h1
    injection h3 with h3
    injection h3 with a1 h3
    injection h3 with a2 h3
    injection h3 with a3 h3
    injection h3 with a4 h3
    injection a1 with a1
    injection a2 with a2
    injection a3 with a3
    injection a4 with a4
    obtain ⟨xp, xo, xr, xl⟩ := x
    obtain ⟨yp, yo, yr, yl⟩ := y
    dsimp only at a1 a2 a3 a4
    rw [a1, b2n_inj a2, b2n_inj a3, a4, keysOf_inj h2]
theorem sk_inj {xs ys : List Row} (h : sk xs = sk ys) : xs = ys := by
  have h1 : NestedKey.tup (keysOf (xs.map rowD)) = .tup (keysOf (ys.map rowD)) := h
  injection h1 with h1
  exact keysOf_inj h1
theorem sk_depth (xs : List Row) : (sk xs).depth ≤ 8 := by
  have : ∀ xs : List Row, NestedKey.depthAll (keysOf (xs.map rowD)) ≤ 1 := by
    intro xs
    induction xs with
    | nil => exact Nat.zero_le _
    | cons x r ih =>
      show max (NestedKey.depth (keyOf (rowD x))) (NestedKey.depthAll (keysOf (r.map rowD))) ≤ 1
      have : NestedKey.depth (keyOf (rowD x)) = 1 := rfl
      omega
  have h := this xs
  show NestedKey.depthAll (keysOf (xs.map rowD)) + 1 ≤ 8
  omega
theorem isT_row (r : Row) : isT (rowD r) = true := rfl
theorem isT_st (xs : List Row) : isT (stD xs) = true := by
  show isTAll (xs.map rowD) = true
  induction xs with
  | nil => rfl
  | cons x r ih =>
    show (isT (rowD x) && isTAll (r.map rowD)) = true
    rw [isT_row, ih]
    rfl
theorem isT_sc (ss : List (List Wd)) : isT (scD ss) = true := by
  show isTAll (ss.map fun sc => .tuple (sc.map fun v => .str (wS v))) = true
  induction ss with
  | nil => rfl
  | cons x r ih =>
    show (isTAll (x.map fun v => .str (wS v)) && isTAll (r.map fun sc => .tuple (sc.map fun v => .str (wS v)))) = true
    rw [ih, Bool.and_true]
    clear ih
    induction x with
    | nil => rfl
    | cons v q ih => exact ih
/-- an entry of a dict of states -/
abbrev BE := List Row × Addr × V
def kvB (b : BE) : NE := (sk b.1, b.2.1, b.2.2)
def getB (bs : List BE) (xs : List Row) : Option V := (bs.find? fun b => decide (b.1 = xs)).map (·.2.2)
theorem getB_is (xs : List Row) : ∀ bs : List BE, getN (bs.map kvB) (sk xs) = getB bs xs
  | [] => rfl
  | b :: r => by
    have ih := getB_is xs r
    unfold getN getB at ih ⊢
    rw [List.map_cons, List.find?_cons, List.find?_cons]
    by_cases h : b.1 = xs
    · rw [decide_eq_true h, decide_eq_true (show (kvB b).1 = sk xs by show sk b.1 = sk xs; rw [h])]
      rfl
    · rw [decide_eq_false h, decide_eq_false (show ¬ (kvB b).1 = sk xs from fun z => h (sk_inj z))]
      exact ih
theorem getB_isSome {bs : List BE} {xs : List Row} : (getB bs xs).isSome = decide (xs ∈ bs.map (·.1)) := by
  rw [Bool.eq_iff_iff, decide_eq_true_iff]
  unfold getB
  rw [Option.isSome_map, List.find?_isSome, List.mem_map]
  simp only [decide_eq_true_eq]
theorem getB_mem {bs : List BE} {b : BE} (hn : (bs.map (·.1)).Nodup) (hb : b ∈ bs) : getB bs b.1 = some b.2.2 := by
  induction bs with
  | nil => cases hb
  | cons c r ih =>
    rw [List.map_cons, List.nodup_cons] at hn
    unfold getB
    rw [List.find?_cons]
    rcases List.mem_cons.mp hb with rfl | hb
    · rw [decide_eq_true rfl]
      rfl
    · have : c.1 ≠ b.1 := fun z => hn.1 (List.mem_map.mpr ⟨b, hb, z.symm⟩)
      rw [decide_eq_false this]
      exact ih hn.2 hb
theorem nodup_sk : ∀ {bs : List BE}, (bs.map (·.1)).Nodup → ((bs.map kvB).map (·.1)).Nodup
  | [], _ => List.nodup_nil
  | b :: r, h => by
    rw [List.map_cons, List.nodup_cons] at h
    rw [List.map_cons, List.map_cons, List.nodup_cons]
    refine ⟨fun z => ?_, nodup_sk h.2⟩
    rw [List.map_map] at z
    obtain ⟨c, hc, e⟩ := List.mem_map.mp z
    exact h.1 (List.mem_map.mpr ⟨c, hc, sk_inj e⟩)
section
variable {P : Program} {w : World} {H H' : Hp} {R D : Addr} {bs : List BE}
/-- a dict of states -/
structure Sd (P : Program) (w : World) (H : Hp) (D : Addr) (bs : List BE) : Prop where
  dict : H D = some (NDO P w D (bs.map kvB))
  nd : (bs.map (·.1)).Nodup
  tp : ∀ b ∈ bs, Tp H (.ref b.2.1) (stD b.1)
theorem Sd.dn (h : Sd P w H D bs) : DN P w H D (bs.map kvB) := ⟨h.dict, nodup_sk h.nd, fun e he => by
  obtain ⟨b, hb, rfl⟩ := List.mem_map.mp he
  exact ⟨(h.tp b hb).key, sk_depth b.1⟩⟩
theorem Sd.mono (h : Sd P w H D bs) (e : H' D = some (NDO P w D (bs.map kvB))) (k : KeepT H H') : Sd P w H' D bs := ⟨e, h.nd, fun b hb => (h.tp b hb).mono k⟩
theorem Sd.same (h : Sd P w H D bs) (s : Same H H') : Sd P w H' D bs := h.mono (s _ _ h.dict) (.same s)
theorem Sd.one {b : BE} (e : H D = some (NDO P w D [kvB b])) (t : Tp H (.ref b.2.1) (stD b.1)) : Sd P w H D [b] := ⟨e, List.nodup_cons.mpr ⟨List.not_mem_nil, List.nodup_nil⟩, fun c hc => by rw [List.mem_singleton.mp hc]; exact t⟩
theorem Sd.key (h : Sd P w H D bs) {a : Addr} {xs : List Row} (t : Tp H (.ref a) (stD xs)) : NdK P w H (.ref D) (.ref a) (bs.map kvB) (sk xs) D a := ⟨rfl, rfl, h.dn, t.key, sk_depth xs⟩
theorem put_new {xs : List Row} {a : Addr} {v : V} (hx : xs ∉ bs.map (·.1)) : putN (bs.map kvB) (sk xs) a v = (bs ++ [(xs, a, v)]).map kvB := by
  unfold putN
  rw [getB_is, getB_isSome, decide_eq_false hx, if_neg (by decide), List.map_append]
  rfl
theorem Sd.push (h : Sd P w H D bs) {a : Addr} {v : V} {xs : List Row} (hx : xs ∉ bs.map (·.1)) (t : Tp H (.ref a) (stD xs)) : Sd P w (L2.upd H D (NDO P w D (putN (bs.map kvB) (sk xs) a v))) D (bs ++ [(xs, a, v)]) := by
  have k : KeepT H (L2.upd H D (NDO P w D (putN (bs.map kvB) (sk xs) a v))) := KeepT.ext h.dict
  refine ⟨by rw [put_new hx]; exact upd_same, ?_, fun b hb => ?_⟩
  · rw [List.map_append, List.nodup_append]
    refine ⟨h.nd, List.nodup_cons.mpr ⟨List.not_mem_nil, List.nodup_nil⟩, fun y hy z hz => ?_⟩
    obtain rfl := List.mem_singleton.mp hz
    rintro rfl
    exact hx hy
  · rcases List.mem_append.mp hb with hb | hb
    · exact (h.tp b hb).mono k
    · obtain rfl := List.mem_singleton.mp hb
      exact t.mono k
/-- the rows that wait, and the dict -/
structure Bf (P : Program) (w : World) (H : Hp) (R D : Addr) (bs : List BE) : Prop where
  rows : H R = some (.lst (bs.map fun b => V.ref b.2.1))
  sd : Sd P w H D bs
theorem Bf.same (h : Bf P w H R D bs) (s : Same H H') : Bf P w H' R D bs := ⟨s _ _ h.rows, h.sd.same s⟩
theorem Bf.ne (h : Bf P w H R D bs) : R ≠ D := ne_of h.rows h.sd.dict (fun z => by unfold NDO at z; cases z)
theorem Bf.push (h : Bf P w H R D bs) {a : Addr} {v : V} {xs : List Row} (hx : xs ∉ bs.map (·.1)) (t : Tp H (.ref a) (stD xs)) :
    Bf P w (L2.upd (L2.upd H D (NDO P w D (putN (bs.map kvB) (sk xs) a v))) R (.lst ((bs.map fun b => V.ref b.2.1) ++ [.ref a]))) R D (bs ++ [(xs, a, v)]) := by
  have q := h.sd.push (v := v) hx t
  refine ⟨by rw [upd_same, List.map_append]; rfl, q.mono (by rw [upd_ne (Ne.symm h.ne)]; exact q.dict) (KeepT.lst (by rw [upd_ne h.ne]; exact h.rows))⟩
/-- where a state came from, as the program keeps it -/
def VB (H : Hp) (e : Nd) (v : V) : Prop := match e.par with
  | none => v = .non
  | some (p, k) => ∃ t pa, v = .ref t ∧ H t = some (.tup [.ref pa, .int ((k : Nat) : Int)]) ∧ Tp H (.ref pa) (stD p)
theorem VB.mono (k : KeepT H H') {e : Nd} {v : V} (h : VB H e v) : VB H' e v := by
  unfold VB at h ⊢
  split at h
  · exact h
  · obtain ⟨t, pa, e1, e2, e3⟩ := h
    exact ⟨t, pa, e1, k _ _ e2, e3.mono k⟩
/-- the states found, and what the dict keeps of each -/
def RelB (VR : Nd → V → Prop) (es : List Nd) (bs : List BE) : Prop := Paired (fun e b => e.s = b.1 ∧ VR e b.2.2) es bs
theorem RelB.states {VR : Nd → V → Prop} : ∀ {es : List Nd} {bs : List BE}, RelB VR es bs → bs.map (·.1) = es.map Nd.s
  | _, _, .nil => rfl
  | _, _, .cons h q => by rw [List.map_cons, List.map_cons, h.1, RelB.states q]
theorem RelB.mono {VR VR' : Nd → V → Prop} (m : ∀ e v, VR e v → VR' e v) : ∀ {es : List Nd} {bs : List BE}, RelB VR es bs → RelB VR' es bs
  | _, _, .nil => .nil
  | _, _, .cons h q => .cons ⟨h.1, m _ _ h.2⟩ (RelB.mono m q)
theorem RelB.push {VR : Nd → V → Prop} {e : Nd} {b : BE} (he : e.s = b.1) (hv : VR e b.2.2) : ∀ {es : List Nd} {bs : List BE}, RelB VR es bs → RelB VR (es ++ [e]) (bs ++ [b])
  | _, _, .nil => .cons ⟨he, hv⟩ .nil
  | _, _, .cons h q => .cons h (RelB.push he hv q)
theorem RelB.get {VR : Nd → V → Prop} {es : List Nd} {bs : List BE} (h : RelB VR es bs) {e : Nd} (he : e ∈ es) : ∃ b ∈ bs, e.s = b.1 ∧ VR e b.2.2 := by
  induction h with
  | nil => cases he
  | cons h q ih =>
    rcases List.mem_cons.mp he with rfl | he
    · exact ⟨_, List.mem_cons_self .., h⟩
    · obtain ⟨b, hb, r⟩ := ih he
      exact ⟨b, List.mem_cons_of_mem _ hb, r⟩
theorem RelB.val {VR : Nd → V → Prop} {es : List Nd} (h : RelB VR es bs) (hn : (bs.map (·.1)).Nodup) {e : Nd} (he : e ∈ es) : ∃ v, getB bs e.s = some v ∧ VR e v := by
  obtain ⟨b, hb, e1, e2⟩ := h.get he
  exact ⟨b.2.2, by rw [e1]; exact getB_mem hn hb, e2⟩
theorem RelB.at {VR : Nd → V → Prop} {es : List Nd} (h : RelB VR es bs) {n : Nat} {e : Nd} (he : es[n]? = some e) : ∃ b, bs[n]? = some b ∧ e.s = b.1 ∧ VR e b.2.2 := L2.paired_get h he
end
/-- a way by numbers of scripts -/
inductive Pth (ss : List (List Wd)) (tr : Bool) (xs : List Row) : List Nat → List Row → Prop
  | nil : Pth ss tr xs [] xs
  | snoc {ks : List Nat} {ys : List Row} {k : Nat} : Pth ss tr xs ks ys → k ∈ wt ss ys → (tr = true ∨ (nx ss ys k).2 = false) → Pth ss tr xs (ks ++ [k]) (nx ss ys k).1
def numV (ks : List Nat) : List V := ks.map fun k : Nat => V.int (k : Int)
section
variable {P : Program} {w : World} {K : PySem.W.Frag} {mg : Str → Option Value} {base : Heap}

/-- the way to a state that was found -/
def spWay (P : Program) (w : World) : Sp := fun vs H Q _ => ∃ (D a : Addr) (bs : List BE) (ss : List (List Wd)) (tr : Bool) (es : List Nd) (e : Nd), vs = [.ref D, .ref a] ∧ Sd P w H D bs ∧ RelB (VB H) es bs ∧ InvN ss tr es ∧ e ∈ es ∧ Tp H (.ref a) (stD e.s) ∧ e.d ≤ 4100625 ∧
  ∀ (ks : List Nat) (q : Addr) (H' : Hp), ks.length = e.d → Pth ss tr (s0 ss) ks e.s → Same H H' → H' q = some (.tup (numV ks)) → Q (.ref q) H'
theorem pr_way (D' : Df K mg "way_to" sWay ["before", "state"]) (T : Ty mg) : Pr P w K mg base 1 "way_to" ["before", "state"] (spWay P w) := by
  refine D'.pr scWay (fun vs H Q E h => ?_) (fun f cdv A outer s H vs Q E hr h => ?_)
  · obtain ⟨D, a, bs, ss, tr, es, e, rfl, _⟩ := h
    rfl
  · obtain ⟨D, a, bs, ss, tr, es, e, rfl, sd, rel, inv, he, ta, hd, k⟩ := h
    have nd := scWay.nd
    refine ⟨_, (pss_cons (ps_asg (pe_lst pa_nil) (pg_name (i := 2) nd rfl (Or.inl rfl)))
      (pss_cons (ps_while PassesOwn.never (pt_cmpR op_notN (pe_nget hr.units (pv 0) (pv 1) (fun _ _ => rfl)) pe_non (nomark _))
        (pss_cons (ps_asg (pe_nget hr.units (pv 0) (pv 1) (fun _ _ => rfl)) (pg_tup rfl (pgs_cons (pg_name (i := 1) nd rfl (Or.inl rfl)) (pgs_cons (pg_name (i := 3) nd rfl (Or.inl rfl)) pgs_nil))))
        (pss_one (ps_expr (pe_bm PySem.F.plainAttrs_list PySem.F.slot_list_append PySem.F.type_list_append mt_append (pv 2) (pa_cons (pv 3) pa_nil))))))
      (pss_one (ps_ret (pe_callTy call_tuple_of (by rfl) T.tuple (by decide +kernel) (pa_cons (pe_revL (pv 2)) pa_nil)))))), ?_⟩
    refine ⟨(by show 0 ≤ sizeLine; decide), fun F nF => ?_⟩
    generalize hF : upd H F _ = H1
    have sF : Same H H1 := hF ▸ Same.new nF
    have eF : H1 F = some (.lst []) := hF ▸ upd_same
    clear hF
    refine ⟨fun m σ H2 => ∃ (a : Addr) (x : Nd) (fs : List Nat) (o3 : Option V), m = x.d ∧ σ = [some (.ref D), some (.ref a), some (.ref F), o3] ∧ x ∈ es ∧ Tp H (.ref a) (stD x.s) ∧ x.d + fs.length = e.d ∧ (∀ ks, Pth ss tr (s0 ss) ks x.s → Pth ss tr (s0 ss) (ks ++ fs.reverse) e.s) ∧ Same H H2 ∧ H2 F = some (.lst (numV fs)), ?_, ?_⟩
    · exact ⟨_, a, e, [], _, rfl, rfl, he, ta, by simp, fun ks h => by rw [List.reverse_nil, List.append_nil]; exact h, sF, eF⟩
    · rintro m σ H2 ⟨a, x, fs, o3, rfl, rfl, hx, tx, hxd, hp, s2, hF⟩
      have sd2 := sd.same s2
      obtain ⟨v, hv, vb⟩ := rel.val sd.nd hx
      have tx2 := tx.mono (.same s2)
      refine ⟨_, rfl, _, rfl, bs.map kvB, sk x.s, D, a, v, sd2.key tx2, by rw [getB_is]; exact hv, rfl, _, rfl, ?_⟩
      rcases inv.good x hx with ⟨h1, h2, h3⟩ | ⟨y, hy, kk, h1, h2, h4, h5, h6⟩
      · unfold VB at vb
        rw [h1] at vb
        have vb : v = .non := vb
        subst vb
        refine iteF ?_
        refine ⟨_, rfl, F, _, rfl, SqL.of hF, fun p np => ?_⟩
        generalize hp1 : upd H2 p _ = H3
        have s3 : Same H2 H3 := hp1 ▸ Same.new np
        have e3 : H3 p = some (.lst (numV fs).reverse) := hp1 ▸ upd_same
        clear hp1
        refine ⟨_, _, rfl, .inl ⟨SqL.of e3, fun q nq => ?_⟩⟩
        refine k fs.reverse q _ (by rw [List.length_reverse]; omega) ?_ (Same.tr s2 (Same.tr s3 (same_new nq))) (by rw [upd_same]; unfold numV; rw [← List.map_reverse])
        have := hp [] (by rw [h3]; exact .nil)
        rw [List.nil_append] at this
        exact this
      · unfold VB at vb
        rw [h1] at vb
        obtain ⟨t, pa, rfl, ht, tp⟩ := (show ∃ t pa, v = .ref t ∧ H t = some (.tup [.ref pa, .int ((kk : Nat) : Int)]) ∧ Tp H (.ref pa) (stD y.s) from vb)
        refine iteT ?_
        refine ⟨fun σ' H' => ∃ (a : Addr) (x' : Nd) (fs : List Nat) (o3 : Option V), x'.d < x.d ∧ σ' = [some (.ref D), some (.ref a), some (.ref F), o3] ∧ x' ∈ es ∧ Tp H (.ref a) (stD x'.s) ∧ x'.d + fs.length = e.d ∧ (∀ ks, Pth ss tr (s0 ss) ks x'.s → Pth ss tr (s0 ss) (ks ++ fs.reverse) e.s) ∧ Same H H' ∧ H' F = some (.lst (numV fs)), ?_, ?_⟩
        · rintro σ' H' ⟨a, x', fs, o3, hlt, r⟩
          exact ⟨_, hlt, a, x', fs, o3, rfl, r⟩
        · refine ⟨_, rfl, _, rfl, bs.map kvB, sk x.s, D, a, _, sd2.key tx2, by rw [getB_is]; exact hv, ?_⟩
          refine ⟨_, _, rfl, SqT.of (s2 _ _ ht), rfl, _, _, rfl, _, _, rfl, rfl, ?_⟩
          have nF9 : F ≠ D := fun z => by
            rw [z, sd.dict] at nF
            cases nF
          refine ⟨_, rfl, .inl ⟨rfl, _, SqL.of hF⟩, _, rfl, _, _, _, rfl, rfl, hF, (by unfold numV; rw [List.length_map]; exact small7 (by omega)), ?_⟩
          refine ⟨pa, y, fs ++ [kk], _, by omega, rfl, hy, tp, by rw [List.length_append]; show _ + (_ + 1) = _; omega, fun ks h => ?_, fun b u eb => ?_, ?_⟩
          · have q := hp (ks ++ [kk]) (by rw [← h5]; exact .snoc h h4 h6)
            rw [List.reverse_append, List.reverse_singleton]
            rw [List.append_assoc] at q
            exact q
          · rw [upd_ne (ne_of_none eb nF)]
            exact s2 _ _ eb
          · rw [upd_same]
            unfold numV
            rw [List.map_append]
            rfl
end
end C81

set_option Elab.async false
set_option maxRecDepth 100000
set_option maxHeartbeats 4000000
set_option linter.all false
namespace C81
open PySem L2 My M78
abbrev sRfs : Stmt := top 24
abbrev nRfs : List Str := ["scripts", "rows", "before", "done", "state", "at", "after", "refused"]
theorem scRfs : FnScope nRfs ["scripts"] (defScope sRfs) := ⟨rfl, rfl, rfl, by decide +kernel, rfl, by decide +kernel, by decide +kernel⟩

/-- some step is refused -/
def rfd (ss : List (List Wd)) (xs : List Row) : Bool := (wt ss xs).any fun k => (nx ss xs k).2
theorem ScIn.self (ss : List (List Wd)) : ScIn ss (scD ss) := ⟨_, .inr rfl, by
  induction ss with
  | nil => exact .nil
  | cons x r ih => exact .cons (.inr rfl) ih⟩
theorem exp_take {ss : List (List Wd)} {tr : Bool} {x : Nd} {es : List Nd} {ws : List Nat} {j k : Nat} (h : ws[j]? = some k) : expN ss tr x es (ws.take (j + 1)) = stepN ss tr x (expN ss tr x es (ws.take j)) k := by
  rw [take_succ' h]
  unfold expN
  rw [List.foldl_append]
  rfl
theorem bfs_next {ss : List (List Wd)} {tr : Bool} {n : Nat} {x : Nd} (h : (bfs ss tr n)[n]? = some x) : bfs ss tr (n + 1) = expN ss tr x (bfs ss tr n) (wt ss x.s) := by
  show (match (bfs ss tr n)[n]? with | some x => expN ss tr x (bfs ss tr n) (wt ss x.s) | none => bfs ss tr n) = _
  rw [h]
theorem alike_rows : ∀ xs ys : List Row, PySem.W.alikeAll (xs.map rowD) (ys.map rowD) = true
  | [], _ => by simp [PySem.W.alikeAll]
  | _ :: _, [] => by simp [PySem.W.alikeAll]
  | x :: xs, y :: ys => by
    rw [List.map_cons, List.map_cons]
    unfold PySem.W.alikeAll
    rw [alike_rows xs ys, Bool.and_true]
    unfold rowD PySem.W.alike
    simp [PySem.W.alikeAll, PySem.W.alike]
theorem alike_st (xs ys : List Row) : PySem.W.alike (stD xs) (stD ys) = true := by
  unfold stD PySem.W.alike
  exact alike_rows xs ys
theorem depth_st (xs : List Row) : (stD xs).depth ≤ 50 := by
  have : ∀ xs : List Row, PyData.depthAll (xs.map rowD) ≤ 1 := by
    intro xs
    induction xs with
    | nil => exact Nat.zero_le _
    | cons x r ih =>
      show max (PyData.depth (rowD x)) (PyData.depthAll (r.map rowD)) ≤ 1
      have : PyData.depth (rowD x) = 1 := by simp [rowD, PyData.depth, PyData.depthAll]
      omega
  have h := this xs
  unfold stD
  simp only [PyData.depth]
  omega
theorem isT_all : ∀ {ds : List PyData}, (∀ d ∈ ds, isT d = true) → isTAll ds = true
  | [], _ => rfl
  | d :: r, h => by
    simp only [isTAll, Bool.and_eq_true]
    exact ⟨h d (List.mem_cons_self ..), isT_all fun x hx => h x (List.mem_cons_of_mem _ hx)⟩
theorem srt_mem {d : PyData} {ds : List PyData} (h : d ∈ srtD ds) : d ∈ ds := List.mem_mergeSort.mp h
abbrev stsD (es : List Nd) : List PyData := es.map fun e => stD e.s
/-- the data of the rows that wait -/
theorem rows_at {VR : Nd → V → Prop} {H : Hp} : ∀ {es : List Nd} {bs : List BE}, RelB VR es bs → (∀ b ∈ bs, Tp H (.ref b.2.1) (stD b.1)) → TpAll H (bs.map fun b => V.ref b.2.1) (stsD es)
  | _, _, .nil, _ => .nil
  | _, _, .cons h q, t => .cons (by dsimp only; rw [h.1]; exact t _ (List.mem_cons_self ..)) (rows_at q fun b hb => t b (List.mem_cons_of_mem _ hb))
/-- what a search tells: all states, or an order -/
def Told (ss : List (List Wd)) (H H' : Hp) (q : Addr) : Prop :=
  (∃ (L : Addr) (ys : List V) (N : Nat), H' q = some (.tup [.str (Str.ofString "never"), .ref L]) ∧ H L = none ∧ H' L = some (.lst ys) ∧ (bfs ss false N).length ≤ N ∧ (∀ e ∈ bfs ss false N, rfd ss e.s = false) ∧ TpAll H' ys (srtD (stsD (bfs ss false N)))) ∨
  ∃ (O : Addr) (n : Nat) (e : Nd) (ks : List Nat) (k : Nat), H' q = some (.tup [.str (Str.ofString "order"), .ref O]) ∧ H' O = some (.tup (numV (ks ++ [k]))) ∧ (bfs ss false n)[n]? = some e ∧ (∀ j x, j < n → (bfs ss false n)[j]? = some x → rfd ss x.s = false) ∧ k ∈ wt ss e.s ∧ (nx ss e.s k).2 = true ∧ ks.length = e.d ∧ Pth ss false (s0 ss) ks e.s
section
variable {P : Program} {w : World} {K : PySem.W.Frag} {mg : Str → Option Value} {base : Heap}

def spRfs : Sp := fun vs H Q _ => ∃ (m A : Addr) (o : HO) (ss : List (List Wd)) (d : PyData), H m = some o ∧ vs = [.ref A] ∧ At m H (.ref A) d ∧ ScIn ss d ∧ Ok4 ss ∧ ∀ (q : Addr) (H' : Hp), Same H H' → Told ss H H' q → Q (.ref q) H'
theorem pr_rfs (D' : Df K mg "refusal" sRfs ["scripts"]) (T : Ty mg) (TS : mg "sorted" = none) (PC : Pr P w K mg base 3 "checked" ["scripts"] spChecked) (PF : Pr P w K mg base 4 "first_state" ["scripts"] spFirst) (PWt : Pr P w K mg base 4 "waiting_ones" ["scripts", "state"] spWait)
    (PM : Pr P w K mg base 4 "moved" ["scripts", "state", "at"] spMoved) (PY : Pr P w K mg base 1 "way_to" ["before", "state"] (spWay P w)) : Pr P w K mg base 5 "refusal" ["scripts"] spRfs := by
  refine D'.pr scRfs (fun vs H Q E h => ?_) (fun f cdv A outer s H vs Q E hr h => ?_)
  · obtain ⟨m, A, o, ss, d, hm, rfl, _⟩ := h
    rfl
  · obtain ⟨m, A, o, ss, d, hm, rfl, hA, hin, ok4, k⟩ := h
    have nd := scRfs.nd
    have hr1 := hr.mono (show 1 ≤ 4 by decide)
    have hr3 := hr.mono (show 3 ≤ 4 by decide)
    have ok := ok4.ok
    have hbnd := bnd_small ok4
    have l4 := ok4.l4
    refine ⟨_, (pss_cons (ps_asg (pe_callP PC hr3 (by rfl) (pa_cons (pv 0) pa_nil)) (pg_name (i := 0) nd rfl (Or.inl rfl)))
      (pss_cons (ps_asg (pe_lst (pa_cons (pe_callP PF hr (by rfl) (pa_cons (pv 0) pa_nil)) pa_nil)) (pg_name (i := 1) nd rfl (Or.inl rfl)))
      (pss_cons (ps_asg (pe_ndisp hr.units (pe_ix ix_list (pv 1) pe_int (fun _ _ => rfl)) pe_non) (pg_name (i := 2) nd rfl (Or.inl rfl)))
      (pss_cons (ps_asg pe_int (pg_name (i := 3) nd rfl (Or.inl rfl)))
      (pss_cons (ps_while PassesOwn.never (pt_cmpR op_lt (pv 3) (pe_callB call_len (by rfl) T.len PySem.boot_len (pa_cons (pv 1) pa_nil)) (nomark _))
        (pss_cons (ps_asg (pe_ix ix_list (pv 1) (pv 3) (fun _ _ => rfl)) (pg_name (i := 4) nd rfl (Or.inl rfl)))
        (pss_cons (ps_asg (pe_op op_add (pv 3) pe_int) (pg_name (i := 3) nd rfl (Or.inl rfl)))
        (pss_one (ps_for PassesOwn.never rfl (pi_list (pe_callP PWt hr (by rfl) (pa_cons (pv 0) (pa_cons (pv 4) pa_nil)))) (pg_name (i := 5) nd rfl (Or.inl rfl))
          (pss_cons (ps_asg (pe_callP PM hr (by rfl) (pa_cons (pv 0) (pa_cons (pv 4) (pa_cons (pv 5) pa_nil)))) (pg_tup rfl (pgs_cons (pg_name (i := 6) nd rfl (Or.inl rfl)) (pgs_cons (pg_name (i := 7) nd rfl (Or.inl rfl)) pgs_nil))))
          (pss_cons (ps_if (pt_val (pv 7))
            (pss_one (ps_ret (pe_tup (pa_cons pe_str (pa_cons (pe_op op_catA (pe_callP PY hr1 (by rfl) (pa_cons (pv 2) (pa_cons (pv 4) pa_nil))) (pe_tup (pa_cons (pv 5) pa_nil))) pa_nil)))))
            pss_nil)
          (pss_one (ps_if (pt_cmp (pc_nnotin hr.units (pv 6) (pv 2)))
            (pss_cons (ps_nput hr.units (pv 2) (pv 6) (pe_tup (pa_cons (pv 4) (pa_cons (pv 5) pa_nil))) rfl)
            (pss_one (ps_expr (pe_bm PySem.F.plainAttrs_list PySem.F.slot_list_append PySem.F.type_list_append mt_append (pv 1) (pa_cons (pv 6) pa_nil)))))
            pss_nil)))))))))
      (pss_one (ps_ret (pe_tup (pa_cons pe_str (pa_cons (pe_callB (cr_sortedN hr.units) (by rfl) TS (by decide +kernel) (pa_cons (pv 1) pa_nil)) pa_nil)))))))))), ?_⟩
    refine ⟨_, rfl, m, A, o, ss, d, hm, rfl, hA, hin, ok4.l1, ok4.l4, ok, fun q1 H1 s1 a1 => ?_⟩
    have t1 := a1.tp (isT_sc ss)
    refine ⟨_, rfl, m, q1, o, ss, scD ss, s1 _ _ hm, rfl, a1, ScIn.self ss, ok4.l1, ok4.l4, ok, fun q2 H2 s2 a2 => ?_⟩
    have t2 : Tp H2 (.ref q2) (stD (s0 ss)) := a2.tp (isT_st _)
    have t12 := t1.mono (.same s2)
    refine ⟨(by show 1 ≤ sizeLine; decide), fun R nR => ?_⟩
    generalize hR : upd H2 R _ = H3
    have sR : Same H2 H3 := hR ▸ Same.new nR
    have eR : H3 R = some (.lst [.ref q2]) := hR ▸ upd_same
    clear hR
    have sH3 : Same H H3 := Same.tr s1 (Same.tr s2 sR)
    have hRn : H R = none := Same.free (Same.tr s1 s2) nR
    -- before = {rows[0]: None}
    intro D nD
    generalize hD : upd H3 D _ = H4
    have sD : Same H3 H4 := hD ▸ Same.new nD
    have eD : H4 D = some (NDO P w D []) := hD ▸ upd_same
    clear hD
    have hDn : H D = none := Same.free sH3 nD
    have t24 := (t2.mono (.same sR)).mono (.same sD)
    refine ⟨_, rfl, R, _, 0, .ref q2, rfl, rfl, SqL.of (sD _ _ eR), rfl, ?_⟩
    refine ⟨_, _, rfl, eD, sk (s0 ss), q2, rfl, t24.key, sk_depth _, ?_⟩
    have nRD : R ≠ D := ne_of_none eR nD
    generalize hD5 : upd H4 D _ = H5
    have k45 : KeepT H4 H5 := hD5 ▸ KeepT.ext eD
    have eD5 : H5 D = some (NDO P w D [kvB (s0 ss, q2, .non)]) := hD5 ▸ upd_same
    have eR5 : H5 R = some (.lst [.ref q2]) := by
      rw [← hD5, upd_ne nRD]
      exact sD _ _ eR
    have sH5 : Same H H5 := fun b u e => by
      rw [← hD5, upd_ne (ne_of_none e hDn)]
      exact sD _ _ (sH3 _ _ e)
    clear hD5
    have t15 := ((t12.mono (.same sR)).mono (.same sD)).mono k45
    have bf5 : Bf P w H5 R D [(s0 ss, q2, .non)] := ⟨eR5, .one eD5 (t24.mono k45)⟩
    have rel5 : RelB (VB H5) (bfs ss false 0) [(s0 ss, q2, .non)] := .cons ⟨rfl, rfl⟩ .nil
    clear t12 t2 a2 a1 eD eR t24 sD sR
    -- the search
    refine ⟨fun m σ H6 => ∃ (n : Nat) (bs : List BE) (o4 o5 o6 o7 : Option V), m + n = bnd ss ∧ σ = [some (.ref q1), some (.ref R), some (.ref D), some (.int (n : Int)), o4, o5, o6, o7] ∧ Bf P w H6 R D bs ∧ RelB (VB H6) (bfs ss false n) bs ∧
        (∀ j x, j < n → (bfs ss false n)[j]? = some x → rfd ss x.s = false) ∧ n ≤ (bfs ss false n).length ∧ Same H H6 ∧ Tp H6 (.ref q1) (scD ss), ?_, ?_⟩
    · exact ⟨bnd ss, 0, _, _, _, _, _, rfl, rfl, bf5, rel5, fun j x hj => absurd hj (Nat.not_lt_zero _), Nat.zero_le _, sH5, t15⟩
    · rintro m' σ H6 ⟨n, bs, o4, o5, o6, o7, hmn, rfl, bf, rel, hno, hnl, s6, t6⟩
      have inv := bfs_inv (tr := false) ok n
      have hlen := inv.len
      have lbs : bs.length = (bfs ss false n).length := (paired_len rel).symm
      refine ⟨_, rfl, _, rfl, _, _, rfl, .inl ⟨_, SqL.of bf.rows, rfl⟩, _, _, rfl, rfl, _, rfl, ?_⟩
      rw [List.length_map]
      by_cases hn : n < bs.length
      · rw [decide_eq_true (show (n : Int) < ((bs.length : Nat) : Int) by omega)]
        refine iteT ?_
        obtain ⟨e, he⟩ : ∃ e, (bfs ss false n)[n]? = some e := ⟨_, List.getElem?_eq_getElem (by omega)⟩
        obtain ⟨b, hb, ebs, _⟩ := rel.at he
        have hem := List.mem_of_getElem? he
        have sie := inv.si e hem
        have hbm := List.mem_of_getElem? hb
        have tb := bf.sd.tp b hbm
        rw [← ebs] at tb
        have lxs : ss.length = e.s.length := paired_len sie
        refine ⟨fun σ' H' => ∃ (bs : List BE) (o4 o5 o6 o7 : Option V), σ' = [some (.ref q1), some (.ref R), some (.ref D), some (.int ((n + 1 : Nat) : Int)), o4, o5, o6, o7] ∧ Bf P w H' R D bs ∧ RelB (VB H') (bfs ss false (n + 1)) bs ∧
            (∀ j x, j < n + 1 → (bfs ss false (n + 1))[j]? = some x → rfd ss x.s = false) ∧ n + 1 ≤ (bfs ss false (n + 1)).length ∧ Same H H' ∧ Tp H' (.ref q1) (scD ss), ?_, ?_⟩
        · rintro σ' H' ⟨bs, o4, o5, o6, o7, r⟩
          exact ⟨m' - 1, by omega, n + 1, bs, o4, o5, o6, o7, by omega, r⟩
        · refine ⟨_, rfl, _, rfl, R, _, _, .ref b.2.1, rfl, rfl, SqL.of bf.rows, atI_nat (by rw [List.getElem?_map, hb]; rfl), ?_⟩
          refine ⟨_, rfl, _, _, rfl, rfl, ?_⟩
          -- waiting_ones
          have nT : NoT H6 R := .lst bf.rows
          refine ⟨_, rfl, _, rfl, R, q1, b.2.1, ss, e.s, rfl, t6.at nT, tb.at nT, lxs, (by omega), fun q3 H7 nq3 s7 hl7 => ?_⟩
          obtain ⟨ws, hws⟩ : ∃ ws, ws = wt ss e.s := ⟨_, rfl⟩
          rw [show waitL ss e.s e.s.length = ws from hws.symm] at hl7
          refine ⟨q3, rfl, ⟨_, SqL.of hl7⟩, ?_⟩
          have hq3 : H q3 = none := Same.free s6 nq3
          have nq3R : q3 ≠ R := Ne.symm (ne_of_none bf.rows nq3)
          have nq3D : q3 ≠ D := Ne.symm (ne_of_none bf.sd.dict nq3)
          refine for_list (K := K) (xs := ws.map fun k : Nat => V.int (k : Int)) (fun j σ H8 => ∃ (bs : List BE) (o5 o6 o7 : Option V), σ = [some (.ref q1), some (.ref R), some (.ref D), some (.int ((n : Int) + 1)), some (.ref b.2.1), o5, o6, o7] ∧ Bf P w H8 R D bs ∧
              RelB (VB H8) (expN ss false e (bfs ss false n) (ws.take j)) bs ∧ (∀ i k, i < j → ws[i]? = some k → (nx ss e.s k).2 = false) ∧ Same H H8 ∧ Tp H8 (.ref q1) (scD ss) ∧ Tp H8 (.ref b.2.1) (stD e.s) ∧ H8 q3 = some (.lst (ws.map fun k : Nat => V.int (k : Int)))) ?_ ?_ ?_ ?_
          · exact ⟨bs, _, _, _, rfl, bf.same s7, rel.mono fun e v h => h.mono (.same s7), fun i k hi => absurd hi (Nat.not_lt_zero _), Same.tr s6 s7, t6.mono (.same s7), tb.mono (.same s7), hl7⟩
          · rintro j σ H8 _ ⟨bs, o5, o6, o7, _, _, _, _, _, _, _, h⟩
            exact SqL.of h
          · rintro j y σ H8 hy ⟨bs, o5, o6, o7, rfl, bf8, rel8, hno8, s8, t8, tb8, hl8⟩
            rw [List.getElem?_map] at hy
            obtain ⟨kk, hkk, rfl⟩ := Option.map_eq_some_iff.mp hy
            have hkw : kk ∈ wt ss e.s := hws ▸ List.mem_of_getElem? hkk
            obtain ⟨sc, x, p, v, hsc, hx, hp, hv, hnx, sin, _⟩ := wt_nx ok sie hkw
            have nT8 : NoT H8 R := .lst bf8.rows
            have inv8 : InvN ss false (expN ss false e (bfs ss false n) (ws.take j)) := inv.exp ok hem fun k hk => hws ▸ List.mem_of_mem_take hk
            obtain ⟨tl, htl⟩ := exp_pre ss false e (ws.take j) (bfs ss false n)
            have he8 : e ∈ expN ss false e (bfs ss false n) (ws.take j) := by
              rw [htl]
              exact List.mem_append_left _ hem
            -- moved
            refine ⟨_, rfl, _, rfl, _, rfl, R, q1, b.2.1, _, ss, e.s, kk, p, sc, x, v, bf8.rows, rfl, t8.at nT8, tb8.at nT8, (by omega), hsc, hx, hp, hv, fun q4 H9 nq4 s9 a9 => ?_⟩
            have e1 : (nx ss e.s kk).1 = e.s.set kk (triedM v x (topM e.s kk)).1 := by rw [hnx]
            have e2 : (nx ss e.s kk).2 = (triedM v x (topM e.s kk)).2 := by rw [hnx]
            rw [← e1, ← e2] at a9
            obtain ⟨_, u9, eu, _, h9, au⟩ := at_tup a9
            cases eu
            cases au with
            | @cons va _ _ _ aa ar =>
              cases ar with
              | cons ab ar2 =>
                cases ar2
                cases ab
                have ta9 := aa.tp (isT_st _)
                obtain ⟨a4, x4, rfl, _, _⟩ := Tp.ref (ds := (nx ss e.s kk).1.map rowD) ta9
                refine ⟨_, _, rfl, SqT.of h9, rfl, _, _, rfl, _, _, rfl, rfl, ?_⟩
                have bf9 := bf8.same s9
                have rel9 := rel8.mono fun e v h => VB.mono (.same s9) h
                have s89 := Same.tr s8 s9
                have t9 := t8.mono (.same s9)
                have tb9 := tb8.mono (.same s9)
                -- if refused
                refine ⟨_, rfl, _, rfl, ?_⟩
                refine ite2 (fun hrf => ?_) (fun hrf => ?_)
                · -- an order
                  have hed : e.d ≤ 4100625 := by
                    have := inv.depth hem
                    omega
                  refine ⟨_, rfl, _, rfl, D, b.2.1, bs, ss, false, _, e, rfl, bf9.sd, rel9, inv8, he8, tb9, hed, fun ks q5 H10 hkl hpt s10 h10 => ?_⟩
                  refine ⟨_, rfl, (by show 1 ≤ sizeLine; decide), fun p2 np2 => ?_⟩
                  generalize hp2 : upd H10 p2 _ = H11
                  have sp2 : Same H10 H11 := hp2 ▸ Same.new np2
                  have ep2 : H11 p2 = some (.tup [.int (kk : Int)]) := hp2 ▸ upd_same
                  clear hp2
                  have nR10 : NoT H11 R := .lst (sp2 _ _ (s10 _ _ bf9.rows))
                  have hR11 := sp2 _ _ (s10 _ _ bf9.rows)
                  show rCatA K _ _ _ _
                  refine cat_any (m := R) (a := q5) (b := p2) (sp2 _ _ h10) ep2 (fun z => nR10 _ (z ▸ sp2 _ _ h10)) (fun z => nR10 _ (z ▸ ep2)) hR11 (by unfold numV; rw [List.length_map]; show _ + 1 ≤ _; exact Nat.le_of_lt (small7 (by omega))) (fun p3 H12 n3 s12 h12 => ?_)
                  refine ⟨(by show 2 ≤ sizeLine; decide), fun p6 np6 => ?_⟩
                  have sAll := Same.tr s89 (Same.tr s10 (Same.tr sp2 s12))
                  refine k p6 _ (Same.tr sAll (same_new np6)) (.inr ⟨p3, n, e, ks, kk, upd_same, ?_, he, hno, hkw, hrf, hkl, hpt⟩)
                  rw [same_new np6 _ _ h12]
                  unfold numV
                  rw [List.map_append]
                  rfl
                · have hrf : (nx ss e.s kk).2 = false := by simpa using hrf
                  have hst : stepN ss false e (expN ss false e (bfs ss false n) (ws.take j)) kk = addN (expN ss false e (bfs ss false n) (ws.take j)) e (nx ss e.s kk).1 kk := by
                    unfold stepN
                    rw [if_pos (by rw [hrf]; rfl)]
                  have hno9 : ∀ i k, i < j + 1 → ws[i]? = some k → (nx ss e.s k).2 = false := fun i k hi hk => by
                    rcases Nat.lt_or_ge i j with h | h
                    · exact hno8 i k h hk
                    · obtain rfl : i = j := by omega
                      rw [hkk] at hk
                      cases hk
                      exact hrf
                  -- if after not in before
                  refine ⟨_, rfl, _, rfl, bs.map kvB, sk (nx ss e.s kk).1, D, a4, bf9.sd.key ta9, ?_⟩
                  rw [getB_is, getB_isSome, rel9.states]
                  refine ⟨_, rfl, ?_⟩
                  by_cases hin9 : (nx ss e.s kk).1 ∈ (expN ss false e (bfs ss false n) (ws.take j)).map Nd.s
                  · rw [decide_eq_true hin9]
                    refine iteF ?_
                    refine ⟨bs, _, _, _, rfl, bf9, ?_, hno9, s89, t9, tb9, s9 _ _ hl8⟩
                    rw [exp_take hkk, hst]
                    unfold addN
                    rw [if_pos hin9]
                    exact rel9
                  · rw [decide_eq_false hin9]
                    refine iteT ?_
                    refine ⟨_, rfl, _, rfl, (by show 2 ≤ sizeLine; decide), fun tt ntt => ?_⟩
                    generalize htt : upd H9 tt _ = H10
                    have s10 : Same H9 H10 := htt ▸ Same.new ntt
                    have e10 : H10 tt = some (.tup [.ref b.2.1, .int (kk : Int)]) := htt ▸ upd_same
                    clear htt
                    have bf10 := bf9.same s10
                    have rel10 := rel9.mono fun e v h => VB.mono (.same s10) h
                    have ta10 := ta9.mono (.same s10)
                    have l10 : bs.length = (expN ss false e (bfs ss false n) (ws.take j)).length := (paired_len rel10).symm
                    have hlen10 := inv8.len
                    refine ⟨_, rfl, _, rfl, bs.map kvB, sk (nx ss e.s kk).1, D, a4, bf10.sd.key ta10, (by rw [List.length_map]; exact Nat.lt_of_le_of_lt (show bs.length ≤ 4100625 by omega) (by decide)), ?_⟩
                    have hR10 : upd H10 D (NDO P w D (putN (bs.map kvB) (sk (nx ss e.s kk).1) a4 (.ref tt))) R = some (.lst (bs.map fun b => V.ref b.2.1)) := by
                      rw [upd_ne bf10.ne]
                      exact bf10.rows
                    refine ⟨_, rfl, .inl ⟨rfl, _, SqL.of hR10⟩, _, rfl, R, _, _, rfl, rfl, hR10, (by rw [List.length_map]; exact Nat.lt_of_le_of_lt (show bs.length ≤ 4100625 by omega) (by decide)), ?_⟩
                    have hx10 : (nx ss e.s kk).1 ∉ bs.map (·.1) := by
                      rw [rel10.states]
                      exact hin9
                    have bfP := bf10.push (v := .ref tt) hx10 ta10
                    have kP : KeepT H10 _ := (KeepT.ext (o := NDO P w D (putN (bs.map kvB) (sk (nx ss e.s kk).1) a4 (.ref tt))) bf10.sd.dict).trans (KeepT.lst (o := .lst ((bs.map fun b => V.ref b.2.1) ++ [.ref a4])) hR10)
                    refine ⟨bs ++ [((nx ss e.s kk).1, a4, V.ref tt)], _, _, _, rfl, bfP, ?_, hno9, fun bb u eb => ?_, (t9.mono (.same s10)).mono kP, (tb9.mono (.same s10)).mono kP, ?_⟩
                    · rw [exp_take hkk, hst]
                      unfold addN
                      rw [if_neg hin9]
                      exact (rel10.mono fun e v h => VB.mono kP h).push rfl ⟨tt, b.2.1, rfl, kP _ _ e10, (tb9.mono (.same s10)).mono kP⟩
                    · rw [upd_ne (ne_of_none eb hRn), upd_ne (ne_of_none eb hDn)]
                      exact s10 _ _ (s89 _ _ eb)
                    · rw [upd_ne nq3R, upd_ne nq3D]
                      exact s10 _ _ (s9 _ _ hl8)
          · rintro σ H8 ⟨bs, o5, o6, o7, rfl, bf8, rel8, hno8, s8, t8, tb8, hl8⟩
            rw [List.length_map, List.take_length] at rel8
            rw [List.length_map] at hno8
            have hbn : bfs ss false (n + 1) = expN ss false e (bfs ss false n) ws := by
              rw [bfs_next he, hws]
            rw [← hbn] at rel8
            obtain ⟨tl, htl⟩ := bfs_pre ss false n
            refine ⟨bs, _, _, _, _, rfl, bf8, rel8, fun j x hj hx => ?_, ?_, s8, t8⟩
            · rw [htl, List.getElem?_append_left (by omega)] at hx
              rcases Nat.lt_or_ge j n with h | h
              · exact hno j x h hx
              · obtain rfl : j = n := by omega
                rw [he] at hx
                cases hx
                unfold rfd
                rw [← hws, List.any_eq_false]
                intro k hk
                obtain ⟨i, hi, ei⟩ := List.getElem_of_mem hk
                have := hno8 i k hi (by rw [List.getElem?_eq_getElem hi, ei])
                rw [this]
                decide
            · rw [htl, List.length_append]
              omega
      · rw [decide_eq_false (show ¬ (n : Int) < ((bs.length : Nat) : Int) by omega)]
        refine iteF ?_
        have hall : ∀ e ∈ bfs ss false n, rfd ss e.s = false := fun e he => by
          obtain ⟨j, hj, ej⟩ := List.getElem_of_mem he
          exact hno j e (by omega) (by rw [List.getElem?_eq_getElem hj, ej])
        have tr6 := rows_at rel bf.sd.tp
        refine ⟨_, rfl, ?_⟩
        dsimp only [tNil]
        refine ⟨R, R, _, _, rfl, SqL.of bf.rows, tr6.at (.lst bf.rows), ?_, ?_, ?_, fun ys L nL ays => ?_⟩
        · intro x hx y hy
          obtain ⟨e, _, rfl⟩ := List.mem_map.mp hx
          obtain ⟨e', _, rfl⟩ := List.mem_map.mp hy
          exact alike_st _ _
        · refine .inl fun x hx => ?_
          obtain ⟨e, he, rfl⟩ := List.mem_map.mp hx
          have hl := paired_len (inv.si e he)
          have := ok4.l1
          obtain ⟨r, rs, hrs⟩ : ∃ r rs, e.s = r :: rs := by
            cases h : e.s with
            | nil =>
              rw [h] at hl
              have : ss.length = 0 := hl
              omega
            | cons r rs => exact ⟨r, rs, rfl⟩
          exact ⟨rowD r, rs.map rowD, by rw [hrs]; rfl⟩
        · intro x hx
          obtain ⟨e, _, rfl⟩ := List.mem_map.mp hx
          exact depth_st _
        · have tys := ays.tp (isT_all fun d hd => by
            obtain ⟨e, _, rfl⟩ := List.mem_map.mp (srt_mem hd)
            exact isT_st _)
          generalize hL7 : upd H6 L _ = H7
          have s7 : Same H6 H7 := hL7 ▸ Same.new nL
          have e7 : H7 L = some (.lst ys) := hL7 ▸ upd_same
          clear hL7
          refine ⟨(by show 2 ≤ sizeLine; decide), fun p6 np6 => ?_⟩
          refine k p6 _ (Same.tr s6 (Same.tr s7 (same_new np6))) (.inl ⟨L, ys, n, upd_same, Same.free s6 nL, same_new np6 _ _ e7, by omega, hall, (tys.mono (.same s7)).mono (.same (same_new np6))⟩)
end
end C81

set_option Elab.async false
set_option maxRecDepth 100000
set_option maxHeartbeats 4000000
set_option linter.all false
namespace C81
open PySem L2 My M78
abbrev sIss : Stmt := top 25
abbrev nIss : List Str := ["scripts", "state", "ones", "at"]
theorem scIss : FnScope nIss ["scripts", "state"] (defScope sIss) := ⟨rfl, rfl, rfl, by decide +kernel, rfl, by decide +kernel, by decide +kernel⟩
abbrev sStk : Stmt := top 26
abbrev nStk : List Str := ["scripts", "rows", "before", "done", "state", "at", "after"]
theorem scStk : FnScope nStk ["scripts"] (defScope sStk) := ⟨rfl, rfl, rfl, by decide +kernel, rfl, by decide +kernel, by decide +kernel⟩

/-- nobody can go on, and somebody has a step left -/
def stk (ss : List (List Wd)) (xs : List Row) : Bool := !(wt ss xs).isEmpty && (wt ss xs).all fun k => (nx ss xs k).2
def natE (ws : List Nat) : List PyData := ws.map fun k : Nat => .int (k : Int)
theorem at_natE {m : Addr} {H : Hp} : ∀ ws : List Nat, AtAll m H (ws.map fun k : Nat => V.int (k : Int)) (natE ws)
  | [] => .nil
  | k :: r => .cons (.int _) (at_natE r)
theorem shaped_natE (ws : List Nat) : SeqAt.shaped (.list (natE ws)) = true := by
  have h1 : PyData.canLayAll0 (natE ws) = true := by
    induction ws with
    | nil => rfl
    | cons k r ih =>
      show (PyData.canLay0 (.int (k : Int)) && PyData.canLayAll0 (natE r)) = true
      rw [ih]
      rfl
  have h2 : PyData.depthAll (natE ws) = 0 := by
    clear h1
    induction ws with
    | nil => rfl
    | cons k r ih =>
      show max (PyData.depth (.int (k : Int))) (PyData.depthAll (natE r)) = 0
      rw [ih]
      rfl
  unfold SeqAt.shaped
  rw [Bool.and_eq_true_iff]
  refine ⟨?_, decide_eq_true ?_⟩
  · simpa only [PyData.canLay0] using h1
  · simp only [PyData.depth]
    rw [h2]
    decide
theorem eqv_natE (ws : List Nat) : PyData.eqv (.list (natE ws)) (.list []) = ws.isEmpty := by
  cases ws <;> rfl
/-- what the search for a standstill tells: all states, or an order -/
def ToldS (ss : List (List Wd)) (H H' : Hp) (q : Addr) : Prop :=
  (∃ (L : Addr) (ys : List V) (N : Nat), H' q = some (.tup [.str (Str.ofString "never"), .ref L]) ∧ H L = none ∧ H' L = some (.lst ys) ∧ (bfs ss true N).length ≤ N ∧ (∀ e ∈ bfs ss true N, stk ss e.s = false) ∧ TpAll H' ys (srtD (stsD (bfs ss true N)))) ∨
  ∃ (O : Addr) (n : Nat) (e : Nd) (ks : List Nat), H' q = some (.tup [.str (Str.ofString "order"), .ref O]) ∧ H' O = some (.tup (numV ks)) ∧ (bfs ss true n)[n]? = some e ∧ (∀ j x, j < n → (bfs ss true n)[j]? = some x → stk ss x.s = false) ∧ stk ss e.s = true ∧ ks.length = e.d ∧ Pth ss true (s0 ss) ks e.s
section
variable {P : Program} {w : World} {K : PySem.W.Frag} {mg : Str → Option Value} {base : Heap}

def spIss : Sp := fun vs H Q _ => ∃ (A B : Addr) (ss : List (List Wd)) (xs : List Row), vs = [.ref A, .ref B] ∧ Tp H (.ref A) (scD ss) ∧ Tp H (.ref B) (stD xs) ∧ SI ss xs ∧ Ok4 ss ∧ (∃ m, NoT H m) ∧ ∀ H', Same H H' → Q (.bl (stk ss xs)) H'
theorem pr_iss (D' : Df K mg "is_stuck_state" sIss ["scripts", "state"]) (T : Ty mg) (PWt : Pr P w K mg base 4 "waiting_ones" ["scripts", "state"] spWait)
    (PM : Pr P w K mg base 4 "moved" ["scripts", "state", "at"] spMoved) : Pr P w K mg base 5 "is_stuck_state" ["scripts", "state"] spIss := by
  refine D'.pr scIss (fun vs H Q E h => ?_) (fun f cdv A outer s H vs Q E hr h => ?_)
  · obtain ⟨A, B, ss, xs, rfl, _⟩ := h
    rfl
  · obtain ⟨A, B, ss, xs, rfl, tA, tB, si, ok4, ⟨mm, hmm⟩, k⟩ := h
    have nd := scIss.nd
    have l4 := ok4.l4
    have lxs : ss.length = xs.length := paired_len si
    refine ⟨_, (pss_cons (ps_asg (pe_callP PWt hr (by rfl) (pa_cons (pv 0) (pa_cons (pv 1) pa_nil))) (pg_name (i := 2) nd rfl (Or.inl rfl)))
      (pss_one (ps_ret (pe_and (pe_cmpR (op_neD hr.units) (pv 2) (pe_lst pa_nil) (nomark _)) (pe_one (pe_callB (cr_all rfl) (by rfl) T.all (by decide +kernel) (pa_cons (pe_lc (own := [("at", 3)]) (g := gName 3) (tt := tYes) (te := tOp (rIxT K) (tCall spMoved [] E0 (tCons (tVar 0) (tCons (tVar 1) (tCons (tVar 3) tNil)))) (tC (.int 1))) (by rfl) nd (pi_list (pv 2))
  (blkOk_by (own := [("at", 3)]) (N := nIss) (sc := defScope sIss) (by decide +kernel))
  (fun _ _ _ _ _ => pg_name (i := 3) nd rfl (Or.inl rfl) (Or.inr rfl)) (fun _ _ _ _ _ => pts_nil)
  (fun _ _ _ _ _ => (pe_ix ix_tup (pe_callP PM hr (by rfl) (pa_cons (pv 0) (pa_cons (pv 1) (pa_cons (pv 3) pa_nil)))) pe_int (fun _ _ => rfl)))) pa_nil))))))), ?_⟩
    refine ⟨_, rfl, _, rfl, mm, A, B, ss, xs, rfl, tA.at hmm, tB.at hmm, lxs, (by omega), fun Lf H2 nLf s2 hLf => ?_⟩
    obtain ⟨ws, hws⟩ : ∃ ws, ws = wt ss xs := ⟨_, rfl⟩
    rw [show waitL ss xs xs.length = ws from hws.symm] at hLf
    -- ones != []
    refine ⟨_, rfl, (by show 0 ≤ sizeLine; decide), fun N1 nN1 => ?_⟩
    generalize hN1 : upd H2 N1 _ = H3
    have sN1 : Same H2 H3 := hN1 ▸ Same.new nN1
    have eN1 : H3 N1 = some (.lst []) := hN1 ▸ upd_same
    clear hN1
    refine ⟨_, _, Dp.lst (SqL.of (sN1 _ _ hLf)) (at_natE (m := Lf) _).dp, Dp.lst (SqL.of eN1) .nil, shaped_natE _, rfl, ?_⟩
    rw [eqv_natE]
    refine ⟨_, rfl, ?_⟩
    have s3 := Same.tr s2 sN1
    cases hE : ws.isEmpty
    · refine iteT ?_
      have hLf3 := sN1 _ _ hLf
      refine ⟨_, rfl, Lf, rfl, ⟨_, SqL.of hLf3⟩, fun Dl hD => ?_⟩
      refine lc_list (K := K) (a := Lf) (xs := ws.map fun k : Nat => V.int (k : Int)) (fun i H4 => Same H3 H4 ∧ H4 Dl = some (.lst (((ws.take i).map fun k => (nx ss xs k).2).map V.bl))) ?_ ?_ ?_ ?_
      · exact ⟨same_new hD, upd_same⟩
      · exact fun i H4 _ q => SqL.of (q.1 _ _ hLf3)
      · rintro i y H4 hy ⟨s4, hl4⟩
        rw [List.getElem?_map] at hy
        obtain ⟨kk, hkk, rfl⟩ := Option.map_eq_some_iff.mp hy
        have hkw : kk ∈ wt ss xs := hws ▸ List.mem_of_getElem? hkk
        obtain ⟨sc, x, p, v, hsc, hx, hp, hv, hnx, sin, haf⟩ := wt_nx ok4.ok si hkw
        have s24 := Same.tr s3 s4
        have nT4 : NoT H4 Dl := .lst hl4
        have t4 := tA.mono (.same s24)
        have tb4 := tB.mono (.same s24)
        refine ⟨rfl, ?_⟩
        refine ⟨_, rfl, _, rfl, _, rfl, Dl, A, B, _, ss, xs, kk, p, sc, x, v, hl4, rfl, t4.at nT4, tb4.at nT4, (by omega), hsc, hx, hp, hv, fun q4 H5 _ s5 a5 => ?_⟩
        obtain ⟨_, u5, eu, _, h5, au⟩ := at_tup a5
        cases eu
        cases au with
        | @cons va _ _ _ aa ar =>
          cases ar with
          | cons ab ar2 =>
            cases ar2
            cases ab
            refine ⟨_, _, _, _, rfl, rfl, SqT.of h5, rfl, ?_⟩
            refine ⟨_, s5 _ _ hl4, ?_, ?_, ?_⟩
            · rw [List.length_map, List.length_map, List.length_take]
              have : ws.length ≤ 4 := by
                have h : (wt ss xs).length ≤ xs.length := waitL_len ss xs xs.length
                rw [hws]
                omega
              exact small6 (by omega)
            · intro b u e
              rw [upd_ne (ne_of_none e hD)]
              exact s5 _ _ (s4 _ _ e)
            · have e2 : (nx ss xs kk).2 = (triedM v x (topM xs kk)).2 := by rw [hnx]
              rw [upd_same, take_succ' hkk, List.map_append, List.map_append, ← e2]
              rfl
      · rintro H4 ⟨s4, hl4⟩
        rw [List.length_map, List.take_length] at hl4
        refine ⟨_, _, rfl, SqL.of hl4, ?_⟩
        have : (ws.map fun k => (nx ss xs k).2).all id = stk ss xs := by
          unfold stk
          rw [List.all_map, ← hws, hE]
          rfl
        rw [this]
        exact k _ (Same.tr s3 s4)
    · refine iteF ?_
      have : stk ss xs = false := by
        unfold stk
        rw [← hws, hE]
        rfl
      rw [← this]
      exact k _ s3
def spStk : Sp := fun vs H Q _ => ∃ (m A : Addr) (o : HO) (ss : List (List Wd)) (d : PyData), H m = some o ∧ vs = [.ref A] ∧ At m H (.ref A) d ∧ ScIn ss d ∧ Ok4 ss ∧ ∀ (q : Addr) (H' : Hp), Same H H' → ToldS ss H H' q → Q (.ref q) H'
theorem pr_stk (D' : Df K mg "stuck" sStk ["scripts"]) (T : Ty mg) (TS : mg "sorted" = none) (PC : Pr P w K mg base 3 "checked" ["scripts"] spChecked) (PF : Pr P w K mg base 4 "first_state" ["scripts"] spFirst) (PWt : Pr P w K mg base 4 "waiting_ones" ["scripts", "state"] spWait)
    (PM : Pr P w K mg base 4 "moved" ["scripts", "state", "at"] spMoved) (PY : Pr P w K mg base 1 "way_to" ["before", "state"] (spWay P w)) (PIS : Pr P w K mg base 5 "is_stuck_state" ["scripts", "state"] spIss) : Pr P w K mg base 6 "stuck" ["scripts"] spStk := by
  refine D'.pr scStk (fun vs H Q E h => ?_) (fun f cdv A outer s H vs Q E hr h => ?_)
  · obtain ⟨m, A, o, ss, d, hm, rfl, _⟩ := h
    rfl
  · obtain ⟨m, A, o, ss, d, hm, rfl, hA, hin, ok4, k⟩ := h
    have nd := scStk.nd
    have hr1 := hr.mono (show 1 ≤ 5 by decide)
    have hr3 := hr.mono (show 3 ≤ 5 by decide)
    have hr4 := hr.mono (show 4 ≤ 5 by decide)
    have ok := ok4.ok
    have hbnd := bnd_small ok4
    have l4 := ok4.l4
    refine ⟨_, (pss_cons (ps_asg (pe_callP PC hr3 (by rfl) (pa_cons (pv 0) pa_nil)) (pg_name (i := 0) nd rfl (Or.inl rfl)))
      (pss_cons (ps_asg (pe_lst (pa_cons (pe_callP PF hr4 (by rfl) (pa_cons (pv 0) pa_nil)) pa_nil)) (pg_name (i := 1) nd rfl (Or.inl rfl)))
      (pss_cons (ps_asg (pe_ndisp hr.units (pe_ix ix_list (pv 1) pe_int (fun _ _ => rfl)) pe_non) (pg_name (i := 2) nd rfl (Or.inl rfl)))
      (pss_cons (ps_asg pe_int (pg_name (i := 3) nd rfl (Or.inl rfl)))
      (pss_cons (ps_while PassesOwn.never (pt_cmpR op_lt (pv 3) (pe_callB call_len (by rfl) T.len PySem.boot_len (pa_cons (pv 1) pa_nil)) (nomark _))
        (pss_cons (ps_asg (pe_ix ix_list (pv 1) (pv 3) (fun _ _ => rfl)) (pg_name (i := 4) nd rfl (Or.inl rfl)))
        (pss_cons (ps_asg (pe_op op_add (pv 3) pe_int) (pg_name (i := 3) nd rfl (Or.inl rfl)))
        (pss_cons (ps_if (pt_val (pe_callP PIS hr (by rfl) (pa_cons (pv 0) (pa_cons (pv 4) pa_nil))))
          (pss_one (ps_ret (pe_tup (pa_cons pe_str (pa_cons (pe_callP PY hr1 (by rfl) (pa_cons (pv 2) (pa_cons (pv 4) pa_nil))) pa_nil)))))
          pss_nil)
        (pss_one (ps_for PassesOwn.never rfl (pi_list (pe_callP PWt hr4 (by rfl) (pa_cons (pv 0) (pa_cons (pv 4) pa_nil)))) (pg_name (i := 5) nd rfl (Or.inl rfl))
          (pss_cons (ps_asg (pe_ix ix_tup (pe_callP PM hr4 (by rfl) (pa_cons (pv 0) (pa_cons (pv 4) (pa_cons (pv 5) pa_nil)))) pe_int (fun _ _ => rfl)) (pg_name (i := 6) nd rfl (Or.inl rfl)))
          (pss_one (ps_if (pt_cmp (pc_nnotin hr.units (pv 6) (pv 2)))
            (pss_cons (ps_nput hr.units (pv 2) (pv 6) (pe_tup (pa_cons (pv 4) (pa_cons (pv 5) pa_nil))) rfl)
            (pss_one (ps_expr (pe_bm PySem.F.plainAttrs_list PySem.F.slot_list_append PySem.F.type_list_append mt_append (pv 1) (pa_cons (pv 6) pa_nil)))))
            pss_nil)))))))))
      (pss_one (ps_ret (pe_tup (pa_cons pe_str (pa_cons (pe_callB (cr_sortedN hr.units) (by rfl) TS (by decide +kernel) (pa_cons (pv 1) pa_nil)) pa_nil)))))))))), ?_⟩
    refine ⟨_, rfl, m, A, o, ss, d, hm, rfl, hA, hin, ok4.l1, ok4.l4, ok, fun q1 H1 s1 a1 => ?_⟩
    have t1 := a1.tp (isT_sc ss)
    refine ⟨_, rfl, m, q1, o, ss, scD ss, s1 _ _ hm, rfl, a1, ScIn.self ss, ok4.l1, ok4.l4, ok, fun q2 H2 s2 a2 => ?_⟩
    have t2 : Tp H2 (.ref q2) (stD (s0 ss)) := a2.tp (isT_st _)
    have t12 := t1.mono (.same s2)
    refine ⟨(by show 1 ≤ sizeLine; decide), fun R nR => ?_⟩
    generalize hR : upd H2 R _ = H3
    have sR : Same H2 H3 := hR ▸ Same.new nR
    have eR : H3 R = some (.lst [.ref q2]) := hR ▸ upd_same
    clear hR
    have sH3 : Same H H3 := Same.tr s1 (Same.tr s2 sR)
    have hRn : H R = none := Same.free (Same.tr s1 s2) nR
    -- before = {rows[0]: None}
    intro D nD
    generalize hD : upd H3 D _ = H4
    have sD : Same H3 H4 := hD ▸ Same.new nD
    have eD : H4 D = some (NDO P w D []) := hD ▸ upd_same
    clear hD
    have hDn : H D = none := Same.free sH3 nD
    have t24 := (t2.mono (.same sR)).mono (.same sD)
    refine ⟨_, rfl, R, _, 0, .ref q2, rfl, rfl, SqL.of (sD _ _ eR), rfl, ?_⟩
    refine ⟨_, _, rfl, eD, sk (s0 ss), q2, rfl, t24.key, sk_depth _, ?_⟩
    have nRD : R ≠ D := ne_of_none eR nD
    generalize hD5 : upd H4 D _ = H5
    have k45 : KeepT H4 H5 := hD5 ▸ KeepT.ext eD
    have eD5 : H5 D = some (NDO P w D [kvB (s0 ss, q2, .non)]) := hD5 ▸ upd_same
    have eR5 : H5 R = some (.lst [.ref q2]) := by
      rw [← hD5, upd_ne nRD]
      exact sD _ _ eR
    have sH5 : Same H H5 := fun b u e => by
      rw [← hD5, upd_ne (ne_of_none e hDn)]
      exact sD _ _ (sH3 _ _ e)
    clear hD5
    have t15 := ((t12.mono (.same sR)).mono (.same sD)).mono k45
    have bf5 : Bf P w H5 R D [(s0 ss, q2, .non)] := ⟨eR5, .one eD5 (t24.mono k45)⟩
    have rel5 : RelB (VB H5) (bfs ss true 0) [(s0 ss, q2, .non)] := .cons ⟨rfl, rfl⟩ .nil
    clear t12 t2 a2 a1 eD eR t24 sD sR
    -- the search
    refine ⟨fun m σ H6 => ∃ (n : Nat) (bs : List BE) (o4 o5 o6 : Option V), m + n = bnd ss ∧ σ = [some (.ref q1), some (.ref R), some (.ref D), some (.int (n : Int)), o4, o5, o6] ∧ Bf P w H6 R D bs ∧ RelB (VB H6) (bfs ss true n) bs ∧
        (∀ j x, j < n → (bfs ss true n)[j]? = some x → stk ss x.s = false) ∧ n ≤ (bfs ss true n).length ∧ Same H H6 ∧ Tp H6 (.ref q1) (scD ss), ?_, ?_⟩
    · exact ⟨bnd ss, 0, _, _, _, _, rfl, rfl, bf5, rel5, fun j x hj => absurd hj (Nat.not_lt_zero _), Nat.zero_le _, sH5, t15⟩
    · rintro m' σ H6 ⟨n, bs, o4, o5, o6, hmn, rfl, bf, rel, hno, hnl, s6, t6⟩
      have inv := bfs_inv (tr := true) ok n
      have hlen := inv.len
      have lbs : bs.length = (bfs ss true n).length := (paired_len rel).symm
      refine ⟨_, rfl, _, rfl, _, _, rfl, .inl ⟨_, SqL.of bf.rows, rfl⟩, _, _, rfl, rfl, _, rfl, ?_⟩
      rw [List.length_map]
      by_cases hn : n < bs.length
      · rw [decide_eq_true (show (n : Int) < ((bs.length : Nat) : Int) by omega)]
        refine iteT ?_
        obtain ⟨e, he⟩ : ∃ e, (bfs ss true n)[n]? = some e := ⟨_, List.getElem?_eq_getElem (by omega)⟩
        obtain ⟨b, hb, ebs, _⟩ := rel.at he
        have hem := List.mem_of_getElem? he
        have sie := inv.si e hem
        have hbm := List.mem_of_getElem? hb
        have tb := bf.sd.tp b hbm
        rw [← ebs] at tb
        have lxs : ss.length = e.s.length := paired_len sie
        refine ⟨fun σ' H' => ∃ (bs : List BE) (o4 o5 o6 : Option V), σ' = [some (.ref q1), some (.ref R), some (.ref D), some (.int ((n + 1 : Nat) : Int)), o4, o5, o6] ∧ Bf P w H' R D bs ∧ RelB (VB H') (bfs ss true (n + 1)) bs ∧
            (∀ j x, j < n + 1 → (bfs ss true (n + 1))[j]? = some x → stk ss x.s = false) ∧ n + 1 ≤ (bfs ss true (n + 1)).length ∧ Same H H' ∧ Tp H' (.ref q1) (scD ss), ?_, ?_⟩
        · rintro σ' H' ⟨bs, o4, o5, o6, r⟩
          exact ⟨m' - 1, by omega, n + 1, bs, o4, o5, o6, by omega, r⟩
        · refine ⟨_, rfl, _, rfl, R, _, _, .ref b.2.1, rfl, rfl, SqL.of bf.rows, atI_nat (by rw [List.getElem?_map, hb]; rfl), ?_⟩
          refine ⟨_, rfl, _, _, rfl, rfl, ?_⟩
          -- is_stuck_state
          refine ⟨_, rfl, _, rfl, q1, b.2.1, ss, e.s, rfl, t6, tb, sie, ok4, ⟨R, .lst bf.rows⟩, fun H5' s5' => ?_⟩
          refine ⟨_, rfl, ?_⟩
          replace bf := bf.same s5'
          replace rel := rel.mono fun e v h => VB.mono (.same s5') h
          replace t6 := t6.mono (.same s5')
          replace tb := tb.mono (.same s5')
          replace s6 := Same.tr s6 s5'
          clear s5'
          cases hstk : stk ss e.s
          rotate_left
          · refine iteT ?_
            have hed : e.d ≤ 4100625 := by
              have := inv.depth hem
              omega
            refine ⟨_, rfl, _, rfl, D, b.2.1, bs, ss, true, _, e, rfl, bf.sd, rel, inv, hem, tb, hed, fun ks q5 H10 hkl hpt s10 h10 => ?_⟩
            refine ⟨(by show 2 ≤ sizeLine; decide), fun p6 np6 => ?_⟩
            exact k p6 _ (Same.tr (Same.tr s6 s10) (same_new np6)) (.inr ⟨q5, n, e, ks, upd_same, same_new np6 _ _ h10, he, hno, hstk, hkl, hpt⟩)
          refine iteF ?_
          -- waiting_ones
          have nT : NoT H5' R := .lst bf.rows
          refine ⟨_, rfl, _, rfl, R, q1, b.2.1, ss, e.s, rfl, t6.at nT, tb.at nT, lxs, (by omega), fun q3 H7 nq3 s7 hl7 => ?_⟩
          obtain ⟨ws, hws⟩ : ∃ ws, ws = wt ss e.s := ⟨_, rfl⟩
          rw [show waitL ss e.s e.s.length = ws from hws.symm] at hl7
          refine ⟨q3, rfl, ⟨_, SqL.of hl7⟩, ?_⟩
          have hq3 : H q3 = none := Same.free s6 nq3
          have nq3R : q3 ≠ R := Ne.symm (ne_of_none bf.rows nq3)
          have nq3D : q3 ≠ D := Ne.symm (ne_of_none bf.sd.dict nq3)
          refine for_list (K := K) (xs := ws.map fun k : Nat => V.int (k : Int)) (fun j σ H8 => ∃ (bs : List BE) (o5 o6 : Option V), σ = [some (.ref q1), some (.ref R), some (.ref D), some (.int ((n : Int) + 1)), some (.ref b.2.1), o5, o6] ∧ Bf P w H8 R D bs ∧
              RelB (VB H8) (expN ss true e (bfs ss true n) (ws.take j)) bs ∧ Same H H8 ∧ Tp H8 (.ref q1) (scD ss) ∧ Tp H8 (.ref b.2.1) (stD e.s) ∧ H8 q3 = some (.lst (ws.map fun k : Nat => V.int (k : Int)))) ?_ ?_ ?_ ?_
          · exact ⟨bs, _, _, rfl, bf.same s7, rel.mono fun e v h => h.mono (.same s7), Same.tr s6 s7, t6.mono (.same s7), tb.mono (.same s7), hl7⟩
          · rintro j σ H8 _ ⟨bs, o5, o6, _, _, _, _, _, _, h⟩
            exact SqL.of h
          · rintro j y σ H8 hy ⟨bs, o5, o6, rfl, bf8, rel8, s8, t8, tb8, hl8⟩
            rw [List.getElem?_map] at hy
            obtain ⟨kk, hkk, rfl⟩ := Option.map_eq_some_iff.mp hy
            have hkw : kk ∈ wt ss e.s := hws ▸ List.mem_of_getElem? hkk
            obtain ⟨sc, x, p, v, hsc, hx, hp, hv, hnx, sin, _⟩ := wt_nx ok sie hkw
            have nT8 : NoT H8 R := .lst bf8.rows
            have inv8 : InvN ss true (expN ss true e (bfs ss true n) (ws.take j)) := inv.exp ok hem fun k hk => hws ▸ List.mem_of_mem_take hk
            obtain ⟨tl, htl⟩ := exp_pre ss true e (ws.take j) (bfs ss true n)
            have he8 : e ∈ expN ss true e (bfs ss true n) (ws.take j) := by
              rw [htl]
              exact List.mem_append_left _ hem
            -- moved
            refine ⟨_, rfl, _, rfl, _, rfl, R, q1, b.2.1, _, ss, e.s, kk, p, sc, x, v, bf8.rows, rfl, t8.at nT8, tb8.at nT8, (by omega), hsc, hx, hp, hv, fun q4 H9 nq4 s9 a9 => ?_⟩
            have e1 : (nx ss e.s kk).1 = e.s.set kk (triedM v x (topM e.s kk)).1 := by rw [hnx]
            have e2 : (nx ss e.s kk).2 = (triedM v x (topM e.s kk)).2 := by rw [hnx]
            rw [← e1, ← e2] at a9
            obtain ⟨_, u9, eu, _, h9, au⟩ := at_tup a9
            cases eu
            cases au with
            | @cons va _ _ _ aa ar =>
              cases ar with
              | cons ab ar2 =>
                cases ar2
                cases ab
                have ta9 := aa.tp (isT_st _)
                obtain ⟨a4, x4, rfl, _, _⟩ := Tp.ref (ds := (nx ss e.s kk).1.map rowD) ta9
                refine ⟨_, _, _, _, rfl, rfl, SqT.of h9, rfl, ?_⟩
                have bf9 := bf8.same s9
                have rel9 := rel8.mono fun e v h => VB.mono (.same s9) h
                have s89 := Same.tr s8 s9
                have t9 := t8.mono (.same s9)
                have tb9 := tb8.mono (.same s9)
                have hst : stepN ss true e (expN ss true e (bfs ss true n) (ws.take j)) kk = addN (expN ss true e (bfs ss true n) (ws.take j)) e (nx ss e.s kk).1 kk := by
                  unfold stepN
                  rw [if_pos (by rfl)]
                -- if after not in before
                refine ⟨_, rfl, _, rfl, bs.map kvB, sk (nx ss e.s kk).1, D, a4, bf9.sd.key ta9, ?_⟩
                rw [getB_is, getB_isSome, rel9.states]
                refine ⟨_, rfl, ?_⟩
                by_cases hin9 : (nx ss e.s kk).1 ∈ (expN ss true e (bfs ss true n) (ws.take j)).map Nd.s
                · rw [decide_eq_true hin9]
                  refine iteF ?_
                  refine ⟨bs, _, _, rfl, bf9, ?_, s89, t9, tb9, s9 _ _ hl8⟩
                  rw [exp_take hkk, hst]
                  unfold addN
                  rw [if_pos hin9]
                  exact rel9
                · rw [decide_eq_false hin9]
                  refine iteT ?_
                  refine ⟨_, rfl, _, rfl, (by show 2 ≤ sizeLine; decide), fun tt ntt => ?_⟩
                  generalize htt : upd H9 tt _ = H10
                  have s10 : Same H9 H10 := htt ▸ Same.new ntt
                  have e10 : H10 tt = some (.tup [.ref b.2.1, .int (kk : Int)]) := htt ▸ upd_same
                  clear htt
                  have bf10 := bf9.same s10
                  have rel10 := rel9.mono fun e v h => VB.mono (.same s10) h
                  have ta10 := ta9.mono (.same s10)
                  have l10 : bs.length = (expN ss true e (bfs ss true n) (ws.take j)).length := (paired_len rel10).symm
                  have hlen10 := inv8.len
                  refine ⟨_, rfl, _, rfl, bs.map kvB, sk (nx ss e.s kk).1, D, a4, bf10.sd.key ta10, (by rw [List.length_map]; exact Nat.lt_of_le_of_lt (show bs.length ≤ 4100625 by omega) (by decide)), ?_⟩
                  have hR10 : upd H10 D (NDO P w D (putN (bs.map kvB) (sk (nx ss e.s kk).1) a4 (.ref tt))) R = some (.lst (bs.map fun b => V.ref b.2.1)) := by
                    rw [upd_ne bf10.ne]
                    exact bf10.rows
                  refine ⟨_, rfl, .inl ⟨rfl, _, SqL.of hR10⟩, _, rfl, R, _, _, rfl, rfl, hR10, (by rw [List.length_map]; exact Nat.lt_of_le_of_lt (show bs.length ≤ 4100625 by omega) (by decide)), ?_⟩
                  have hx10 : (nx ss e.s kk).1 ∉ bs.map (·.1) := by
                    rw [rel10.states]
                    exact hin9
                  have bfP := bf10.push (v := .ref tt) hx10 ta10
                  have kP : KeepT H10 _ := (KeepT.ext (o := NDO P w D (putN (bs.map kvB) (sk (nx ss e.s kk).1) a4 (.ref tt))) bf10.sd.dict).trans (KeepT.lst (o := .lst ((bs.map fun b => V.ref b.2.1) ++ [.ref a4])) hR10)
                  refine ⟨bs ++ [((nx ss e.s kk).1, a4, V.ref tt)], _, _, rfl, bfP, ?_, fun bb u eb => ?_, (t9.mono (.same s10)).mono kP, (tb9.mono (.same s10)).mono kP, ?_⟩
                  · rw [exp_take hkk, hst]
                    unfold addN
                    rw [if_neg hin9]
                    exact (rel10.mono fun e v h => VB.mono kP h).push rfl ⟨tt, b.2.1, rfl, kP _ _ e10, (tb9.mono (.same s10)).mono kP⟩
                  · rw [upd_ne (ne_of_none eb hRn), upd_ne (ne_of_none eb hDn)]
                    exact s10 _ _ (s89 _ _ eb)
                  · rw [upd_ne nq3R, upd_ne nq3D]
                    exact s10 _ _ (s9 _ _ hl8)
          · rintro σ H8 ⟨bs, o5, o6, rfl, bf8, rel8, s8, t8, tb8, hl8⟩
            rw [List.length_map, List.take_length] at rel8
            have hbn : bfs ss true (n + 1) = expN ss true e (bfs ss true n) ws := by
              rw [bfs_next he, hws]
            rw [← hbn] at rel8
            obtain ⟨tl, htl⟩ := bfs_pre ss true n
            refine ⟨bs, _, _, _, rfl, bf8, rel8, fun j x hj hx => ?_, ?_, s8, t8⟩
            · rw [htl, List.getElem?_append_left (by omega)] at hx
              rcases Nat.lt_or_ge j n with h | h
              · exact hno j x h hx
              · obtain rfl : j = n := by omega
                rw [he] at hx
                cases hx
                exact hstk
            · rw [htl, List.length_append]
              omega
      · rw [decide_eq_false (show ¬ (n : Int) < ((bs.length : Nat) : Int) by omega)]
        refine iteF ?_
        have hall : ∀ e ∈ bfs ss true n, stk ss e.s = false := fun e he => by
          obtain ⟨j, hj, ej⟩ := List.getElem_of_mem he
          exact hno j e (by omega) (by rw [List.getElem?_eq_getElem hj, ej])
        have tr6 := rows_at rel bf.sd.tp
        refine ⟨_, rfl, ?_⟩
        dsimp only [tNil]
        refine ⟨R, R, _, _, rfl, SqL.of bf.rows, tr6.at (.lst bf.rows), ?_, ?_, ?_, fun ys L nL ays => ?_⟩
        · intro x hx y hy
          obtain ⟨e, _, rfl⟩ := List.mem_map.mp hx
          obtain ⟨e', _, rfl⟩ := List.mem_map.mp hy
          exact alike_st _ _
        · refine .inl fun x hx => ?_
          obtain ⟨e, he, rfl⟩ := List.mem_map.mp hx
          have hl := paired_len (inv.si e he)
          have := ok4.l1
          obtain ⟨r, rs, hrs⟩ : ∃ r rs, e.s = r :: rs := by
            cases h : e.s with
            | nil =>
              rw [h] at hl
              have : ss.length = 0 := hl
              omega
            | cons r rs => exact ⟨r, rs, rfl⟩
          exact ⟨rowD r, rs.map rowD, by rw [hrs]; rfl⟩
        · intro x hx
          obtain ⟨e, _, rfl⟩ := List.mem_map.mp hx
          exact depth_st _
        · have tys := ays.tp (isT_all fun d hd => by
            obtain ⟨e, _, rfl⟩ := List.mem_map.mp (srt_mem hd)
            exact isT_st _)
          generalize hL7 : upd H6 L _ = H7
          have s7 : Same H6 H7 := hL7 ▸ Same.new nL
          have e7 : H7 L = some (.lst ys) := hL7 ▸ upd_same
          clear hL7
          refine ⟨(by show 2 ≤ sizeLine; decide), fun p6 np6 => ?_⟩
          refine k p6 _ (Same.tr s6 (Same.tr s7 (same_new np6))) (.inl ⟨L, ys, n, upd_same, Same.free s6 nL, same_new np6 _ _ e7, by omega, hall, (tys.mono (.same s7)).mono (.same (same_new np6))⟩)
end
end C81

set_option Elab.async false
set_option maxRecDepth 100000
set_option maxHeartbeats 4000000
set_option linter.all false
namespace C81
open PySem L2 My M78
/-- where a way leads -/
def runs (ss : List (List Wd)) (xs : List Row) (ks : List Nat) : List Row := ks.foldl (fun xs k => (nx ss xs k).1) xs
theorem runs_snoc (ss : List (List Wd)) (xs : List Row) (ks : List Nat) (k : Nat) : runs ss xs (ks ++ [k]) = (nx ss (runs ss xs ks) k).1 := by
  unfold runs
  rw [List.foldl_append]
  rfl
theorem Pth.runs {ss : List (List Wd)} {tr : Bool} {xs ys : List Row} {ks : List Nat} (h : Pth ss tr xs ks ys) : runs ss xs ks = ys ∧ ∀ j k, ks[j]? = some k → k ∈ wt ss (C81.runs ss xs (ks.take j)) ∧ (tr = true ∨ (nx ss (C81.runs ss xs (ks.take j)) k).2 = false) := by
  induction h with
  | nil => exact ⟨rfl, fun j k h => by simp at h⟩
  | @snoc ks ys k h1 h2 h3 ih =>
    obtain ⟨e, ih⟩ := ih
    refine ⟨by rw [runs_snoc, e], fun j k' hj => ?_⟩
    by_cases hl : j < ks.length
    · rw [List.getElem?_append_left hl] at hj
      rw [List.take_append_of_le_length (by omega)]
      exact ih j k' hj
    · have hj2 : j = ks.length := by
        have := (List.getElem?_eq_some_iff.mp hj).1
        rw [List.length_append] at this
        simp at this
        omega
      subst hj2
      simp at hj
      subst hj
      rw [List.take_append_of_le_length (Nat.le_refl _), List.take_length, e]
      exact ⟨h2, h3⟩
theorem Pth.si {ss : List (List Wd)} {tr : Bool} {xs ys : List Row} {ks : List Nat} (ok : ∀ sc ∈ ss, okScr sc) (si : SI ss xs) (h : Pth ss tr xs ks ys) : SI ss ys := by
  induction h with
  | nil => exact si
  | snoc h1 h2 h3 ih =>
    obtain ⟨_, _, _, _, _, _, _, _, _, q, _⟩ := wt_nx ok ih h2
    exact q
/-- every state on the way -/
theorem Pth.take {ss : List (List Wd)} {tr : Bool} {xs ys : List Row} {ks : List Nat} (h : Pth ss tr xs ks ys) : ∀ j, j ≤ ks.length → Pth ss tr xs (ks.take j) (C81.runs ss xs (ks.take j)) := by
  induction h with
  | nil => exact fun j _ => by rw [List.take_nil]; exact .nil
  | @snoc ks ys k h1 h2 h3 ih =>
    intro j hj
    by_cases hl : j ≤ ks.length
    · rw [List.take_append_of_le_length hl]
      exact ih j hl
    · rw [List.length_append] at hj
      have hj : j ≤ ks.length + 1 := hj
      rw [List.take_of_length_le (by rw [List.length_append]; show ks.length + 1 ≤ j; omega)]
      have e := h1.runs.1
      rw [runs_snoc, e]
      exact .snoc h1 h2 h3
theorem inV_nat (j : Nat) (l : List Nat) : inV (.int (j : Int)) (l.map fun k : Nat => V.int (k : Int)) = decide (j ∈ l) := by
  rw [Bool.eq_iff_iff, decide_eq_true_iff]
  unfold inV
  rw [List.any_eq_true]
  constructor
  · rintro ⟨y, hy, e⟩
    obtain ⟨k, hk, rfl⟩ := List.mem_map.mp hy
    have : (k : Int) = (j : Int) := eq_of_beq e
    obtain rfl : k = j := by omega
    exact hk
  · intro h
    exact ⟨_, List.mem_map.mpr ⟨j, h, rfl⟩, beq_self_eq_true _⟩
theorem flat_nats (l : List Nat) : (l.map fun k : Nat => V.int (k : Int)).all flatV = true := List.all_eq_true.mpr fun x hx => by
  obtain ⟨k, _, rfl⟩ := List.mem_map.mp hx
  rfl

/-- a closed search holds every state that a step leads to -/
theorem step_has {ss : List (List Wd)} {tr : Bool} {x : Nd} {k : Nat} (es : List Nd) (ht : tr = true ∨ (nx ss x.s k).2 = false) : (nx ss x.s k).1 ∈ (stepN ss tr x es k).map Nd.s := by
  unfold stepN addN
  rw [if_pos (by rcases ht with h | h <;> rw [h] <;> simp)]
  by_cases h : (nx ss x.s k).1 ∈ es.map Nd.s
  · rw [if_pos h]
    exact h
  · rw [if_neg h, List.map_append]
    exact List.mem_append_right _ (List.mem_singleton.mpr rfl)
theorem exp_has {ss : List (List Wd)} {tr : Bool} {x : Nd} {k : Nat} (ht : tr = true ∨ (nx ss x.s k).2 = false) : ∀ (ks : List Nat) (es : List Nd), k ∈ ks → (nx ss x.s k).1 ∈ (expN ss tr x es ks).map Nd.s
  | [], _, h => nomatch h
  | j :: r, es, h => by
    show _ ∈ (expN ss tr x (stepN ss tr x es j) r).map Nd.s
    rcases List.mem_cons.mp h with rfl | h
    · obtain ⟨t, ht'⟩ := exp_pre ss tr x r (stepN ss tr x es k)
      rw [ht', List.map_append]
      exact List.mem_append_left _ (step_has es ht)
    · exact exp_has ht r _ h
theorem bfs_has {ss : List (List Wd)} {tr : Bool} : ∀ (n : Nat) {j : Nat} {e : Nd} {k : Nat}, j < n → (bfs ss tr n)[j]? = some e → k ∈ wt ss e.s → (tr = true ∨ (nx ss e.s k).2 = false) → (nx ss e.s k).1 ∈ (bfs ss tr n).map Nd.s
  | 0, j, e, k, h, _, _, _ => absurd h (Nat.not_lt_zero _)
  | n + 1, j, e, k, h, he, hk, ht => by
    cases hx : (bfs ss tr n)[n]? with
    | none =>
      have e1 : bfs ss tr (n + 1) = bfs ss tr n := by
        show (match (bfs ss tr n)[n]? with | some x => expN ss tr x (bfs ss tr n) (wt ss x.s) | none => bfs ss tr n) = _
        rw [hx]
      rw [e1] at he ⊢
      have h1 := (List.getElem?_eq_some_iff.mp he).1
      have h2 := List.getElem?_eq_none_iff.mp hx
      exact bfs_has n (by omega) he hk ht
    | some x =>
      have hn : n < (bfs ss tr n).length := (List.getElem?_eq_some_iff.mp hx).1
      obtain ⟨t, ht'⟩ := bfs_pre ss tr n
      rcases Nat.lt_or_ge j n with hj | hj
      · rw [ht', List.getElem?_append_left (by omega)] at he
        rw [ht', List.map_append]
        exact List.mem_append_left _ (bfs_has n hj he hk ht)
      · obtain rfl : j = n := by omega
        rw [ht', List.getElem?_append_left hn, hx] at he
        cases he
        rw [bfs_next hx]
        exact exp_has ht _ _ hk
theorem bfs_closed {ss : List (List Wd)} {tr : Bool} {N k : Nat} {xs : List Row} (hN : (bfs ss tr N).length ≤ N) (hx : xs ∈ (bfs ss tr N).map Nd.s) (hk : k ∈ wt ss xs) (ht : tr = true ∨ (nx ss xs k).2 = false) : (nx ss xs k).1 ∈ (bfs ss tr N).map Nd.s := by
  obtain ⟨e, he, rfl⟩ := List.mem_map.mp hx
  obtain ⟨j, hj, ej⟩ := List.getElem_of_mem he
  exact bfs_has N (j := j) (by omega) (by rw [List.getElem?_eq_getElem hj, ej]) hk ht
theorem bfs_first {ss : List (List Wd)} {tr : Bool} (ok : ∀ sc ∈ ss, okScr sc) (N : Nat) : s0 ss ∈ (bfs ss tr N).map Nd.s := by
  obtain ⟨r, hr⟩ := (bfs_inv (tr := tr) ok N).first
  rw [hr]
  exact List.mem_cons_self ..
/-! how much is left -/
def lft : List (List Wd) → List Row → Nat
  | sc :: ss, x :: xs => (sc.length - x.p.toNat) + lft ss xs
  | _, _ => 0
theorem lft_set : ∀ {ss : List (List Wd)} {xs : List Row} {k : Nat} {sc : List Wd} {x : Row} (y : Row), ss[k]? = some sc → xs[k]? = some x → lft ss (xs.set k y) + (sc.length - x.p.toNat) = lft ss xs + (sc.length - y.p.toNat)
  | [], _, _, _, _, _, h, _ => by simp at h
  | _ :: _, [], _, _, _, _, _, h => by simp at h
  | sc' :: ss, x' :: xs, 0, sc, x, y, h1, h2 => by
    simp at h1 h2
    subst h1 h2
    show (_ + lft ss xs) + _ = (_ + lft ss xs) + _
    omega
  | sc' :: ss, x' :: xs, k + 1, sc, x, y, h1, h2 => by
    have := lft_set (k := k) y (show ss[k]? = some sc by simpa using h1) (show xs[k]? = some x by simpa using h2)
    show (_ + lft ss (xs.set k y)) + _ = (_ + lft ss xs) + _
    omega
def tot (ss : List (List Wd)) : Nat := (ss.map List.length).sum
theorem lft_zero : ∀ ss : List (List Wd), lft ss (s0 ss) = tot ss
  | [] => rfl
  | sc :: r => by
    have := lft_zero r
    unfold s0 at this ⊢
    show (sc.length - row0.p.toNat) + lft r (List.replicate r.length row0) = sc.length + tot r
    rw [this]
    rfl
/-- what a refused step leaves -/
theorem tr_ref {v : Wd} {x : Row} {t : Int} (h : (triedM v x t).2 = true) : (triedM v x t).1 = if v = .com then ⟨x.p, x.o, x.r, max x.l 3⟩ else x := by
  unfold triedM at h ⊢
  split at h
  · rename_i h1
    rw [if_pos h1]
    have hv : v ≠ .com := fun z => by
      subst z
      revert h1
      decide
    rw [if_neg hv]
    cases e : openL v x.l t with
    | none => rfl
    | some l =>
      rw [e] at h
      cases h
  · rename_i h1
    rw [if_neg h1]
    split at h
    · rename_i h2
      rw [if_pos h2]
      have hv : v ≠ .com := fun z => by
        subst z
        revert h2
        decide
      rw [if_neg hv]
      cases e : workL v x t with
      | none => rfl
      | some l =>
        rw [e] at h
        cases h
    · rename_i h2
      rw [if_neg h2]
      split at h
      · cases h
      · rename_i h3
        rw [if_neg h3]
        split at h
        · rename_i h4
          rw [if_pos h4, if_pos h4.1]
        · cases h
theorem tr_acc {v : Wd} {x : Row} {t : Int} (h : (triedM v x t).2 = false) : (triedM v x t).1.p = x.p + 1 := by
  unfold triedM at h ⊢
  split at h
  · rename_i h1
    rw [if_pos h1]
    cases e : openL v x.l t with
    | none =>
      rw [e] at h
      cases h
    | some l => rfl
  · rename_i h1
    rw [if_neg h1]
    split at h
    · rename_i h2
      rw [if_pos h2]
      cases e : workL v x t with
      | none =>
        rw [e] at h
        cases h
      | some l => rfl
    · rename_i h2
      rw [if_neg h2]
      split at h
      · rename_i h3
        rw [if_pos h3]
        rfl
      · rename_i h3
        rw [if_neg h3]
        split at h
        · cases h
        · rename_i h4
          rw [if_neg h4]
          rfl
/-- a row whose refusal changes nothing more -/
def Pnd (ss : List (List Wd)) (xs : List Row) (k : Nat) : Prop := ∀ (sc : List Wd) (x : Row) (p : Nat), ss[k]? = some sc → xs[k]? = some x → x.p = (p : Int) → sc[p]? = some .com → 3 ≤ x.l
/-- refusals change nothing -/
def Stl (ss : List (List Wd)) (xs : List Row) : Prop := ∀ k ∈ wt ss xs, (nx ss xs k).2 = true → (nx ss xs k).1 = xs
theorem set_self {α : Type} : ∀ {l : List α} {i : Nat} {x : α}, l[i]? = some x → l.set i x = l
  | [], _, _, h => by simp at h
  | a :: r, 0, x, h => by
    simp at h
    subst h
    rfl
  | a :: r, i + 1, x, h => by
    show a :: r.set i x = a :: r
    rw [set_self (show r[i]? = some x by simpa using h)]
theorem Pnd.stl {ss : List (List Wd)} {xs : List Row} (ok : ∀ sc ∈ ss, okScr sc) (si : SI ss xs) (h : ∀ k ∈ wt ss xs, Pnd ss xs k) : Stl ss xs := fun k hk hr => by
  obtain ⟨sc, x, p, v, hsc, hx, hp, hv, hnx, _, _⟩ := wt_nx ok si hk
  rw [hnx] at hr ⊢
  have e := tr_ref hr
  dsimp only
  rw [e]
  by_cases hc : v = .com
  · subst hc
    have := h k hk sc x p hsc hx hp hv
    rw [if_pos rfl, show max x.l 3 = x.l by omega]
    exact set_self hx
  · rw [if_neg hc]
    exact set_self hx
/-- what one try does -/
theorem try_one {ss : List (List Wd)} {xs : List Row} {k : Nat} (ok : ∀ sc ∈ ss, okScr sc) (si : SI ss xs) (hk : k ∈ wt ss xs) :
    SI ss (nx ss xs k).1 ∧ (∀ j, j ≠ k → (nx ss xs k).1[j]? = xs[j]?) ∧ (((nx ss xs k).2 = false ∧ lft ss (nx ss xs k).1 < lft ss xs) ∨ ((nx ss xs k).2 = true ∧ lft ss (nx ss xs k).1 = lft ss xs ∧ Pnd ss (nx ss xs k).1 k)) := by
  obtain ⟨sc, x, p, v, hsc, hx, hp, hv, hnx, sin, _⟩ := wt_nx ok si hk
  have hpl := (List.getElem?_eq_some_iff.mp hv).1
  have hkl := (List.getElem?_eq_some_iff.mp hx).1
  refine ⟨sin, fun j hj => ?_, ?_⟩
  · rw [hnx]
    exact List.getElem?_set_ne (Ne.symm hj)
  · cases h2 : (nx ss xs k).2
    · refine .inl ⟨rfl, ?_⟩
      rw [hnx] at h2 ⊢
      have e := tr_acc h2
      have q := lft_set (triedM v x (topM xs k)).1 hsc hx
      dsimp only at e q ⊢
      rw [e, hp] at q
      omega
    · refine .inr ⟨rfl, ?_, ?_⟩
      · rw [hnx] at h2 ⊢
        have e := tr_ref h2
        have q := lft_set (triedM v x (topM xs k)).1 hsc hx
        have e2 : (triedM v x (topM xs k)).1.p = x.p := by
          rw [e]
          split <;> rfl
        dsimp only at q ⊢
        rw [e2] at q
        omega
      · intro sc' x' p' h1 h3 h4 h5
        rw [hnx] at h2 h3
        have e := tr_ref h2
        dsimp only at h3
        rw [List.getElem?_set_self hkl] at h3
        cases h3
        rw [hsc] at h1
        cases h1
        have e2 : (triedM v x (topM xs k)).1.p = x.p := by
          rw [e]
          split <;> rfl
        obtain rfl : p' = p := by omega
        rw [hv] at h5
        cases h5
        rw [e, if_pos rfl]
        dsimp only
        omega
/-- a turn: each script that has a step left is tried once -/
structure Trn (ss : List (List Wd)) (R : List Row → Prop) (xs : List Row) (ks : List Nat) (ys : List Row) : Prop where
  si : SI ss ys
  r : R ys
  same : ∀ j, j ∉ ks → ys[j]? = xs[j]?
  le : lft ss ys ≤ lft ss xs
  all : lft ss ys < lft ss xs ∨ ((∀ j ∈ ks, Pnd ss ys j) ∧ (Stl ss xs → ys = xs ∧ ∀ j ∈ ks, (nx ss xs j).2 = true))
theorem Trn.wait {ss : List (List Wd)} {R : List Row → Prop} {xs ys : List Row} {ks : List Nat} (h : Trn ss R xs ks ys) (si : SI ss xs) {k : Nat} (hk : k ∉ ks) : k ∈ wt ss ys ↔ k ∈ wt ss xs := by
  have l1 : ss.length = xs.length := paired_len si
  have l2 : ss.length = ys.length := paired_len h.si
  have e := h.same k hk
  constructor
  · intro q
    obtain ⟨sc, x, hj, hsc, hx, hp⟩ := waitL_mem q
    exact waitL_has hsc (by rw [← e]; exact hx) hp (by omega)
  · intro q
    obtain ⟨sc, x, hj, hsc, hx, hp⟩ := waitL_mem q
    exact waitL_has hsc (by rw [e]; exact hx) hp (by omega)
theorem Trn.snoc {ss : List (List Wd)} {R : List Row → Prop} {xs ys : List Row} {ks : List Nat} {k : Nat} (ok : ∀ sc ∈ ss, okScr sc) (hR : ∀ ys k, R ys → k ∈ wt ss ys → R (nx ss ys k).1) (h : Trn ss R xs ks ys) (si : SI ss xs) (hk : k ∉ ks) (hw : k ∈ wt ss xs) : Trn ss R xs (ks ++ [k]) (nx ss ys k).1 := by
  have hwy := (h.wait si hk).mpr hw
  obtain ⟨s1, s2, s3⟩ := try_one ok h.si hwy
  refine ⟨s1, hR _ _ h.r hwy, fun j hj => ?_, ?_, ?_⟩
  · rw [List.mem_append, not_or] at hj
    rw [s2 j fun z => hj.2 (List.mem_singleton.mpr z)]
    exact h.same j hj.1
  · have := h.le
    rcases s3 with ⟨_, q⟩ | ⟨_, q, _⟩ <;> omega
  · have hle := h.le
    rcases s3 with ⟨_, q⟩ | ⟨q0, q, q2⟩
    · exact .inl (by omega)
    · rcases h.all with hh | ⟨hp, hs⟩
      · exact .inl (by omega)
      · refine .inr ⟨fun j hj => ?_, fun st => ?_⟩
        · by_cases e : j = k
          · subst e
            exact q2
          · have hj' : j ∈ ks := by
              rcases List.mem_append.mp hj with hj | hj
              · exact hj
              · exact absurd (List.mem_singleton.mp hj) e
            intro sc x p h1 h2
            rw [s2 j e] at h2
            exact hp j hj' sc x p h1 h2
        · obtain ⟨e, ha⟩ := hs st
          subst e
          refine ⟨st k hw q0, fun j hj => ?_⟩
          rcases List.mem_append.mp hj with hj | hj
          · exact ha j hj
          · obtain rfl := List.mem_singleton.mp hj
            exact q0
/-- behind a whole turn there is less left, or refusals change nothing from now on -/
theorem Trn.done {ss : List (List Wd)} {R : List Row → Prop} {xs ys : List Row} {ks : List Nat} (ok : ∀ sc ∈ ss, okScr sc) (h : Trn ss R xs ks ys) (si : SI ss xs) (hp : ks.Perm (wt ss xs)) (hne : wt ss xs ≠ []) (hs : stk ss xs = false) :
    lft ss ys < lft ss xs ∨ (lft ss ys = lft ss xs ∧ Stl ss ys ∧ ¬ Stl ss xs) := by
  have hle := h.le
  rcases h.all with hh | ⟨h1, h2⟩
  · exact .inl hh
  · rcases Nat.lt_or_eq_of_le hle with hh | he
    · exact .inl hh
    · refine .inr ⟨he, Pnd.stl ok h.si fun k hk => ?_, fun st => ?_⟩
      · by_cases hm : k ∈ ks
        · exact h1 k hm
        · exact absurd (hp.mem_iff.mpr ((h.wait si hm).mp hk)) hm
      · obtain ⟨_, ha⟩ := h2 st
        have : stk ss xs = true := by
          unfold stk
          rw [Bool.and_eq_true_iff]
          refine ⟨?_, List.all_eq_true.mpr fun k hk => ha k (hp.mem_iff.mpr hk)⟩
          cases hw : wt ss xs with
          | nil => exact absurd hw hne
          | cons a r => rfl
        rw [hs] at this
        cases this
/-- how far the turns have come -/
def Far (ss : List (List Wd)) (i : Nat) (xs : List Row) : Prop := wt ss xs = [] ∨ 2 * lft ss xs + i ≤ 2 * tot ss ∨ (Stl ss xs ∧ 2 * lft ss xs + i ≤ 2 * tot ss + 1)
theorem Far.zero (ss : List (List Wd)) : Far ss 0 (s0 ss) := .inr (.inl (by rw [lft_zero]; omega))
theorem Far.turn {ss : List (List Wd)} {R : List Row → Prop} {xs ys : List Row} {ks : List Nat} {i : Nat} (ok : ∀ sc ∈ ss, okScr sc) (h : Trn ss R xs ks ys) (si : SI ss xs) (hp : ks.Perm (wt ss xs)) (hs : stk ss xs = false) (f : Far ss i xs) : Far ss (i + 1) ys := by
  by_cases hne : wt ss xs = []
  · left
    have hk : ks = [] := by
      rw [hne] at hp
      exact List.perm_nil.mp hp
    subst hk
    refine List.eq_nil_iff_forall_not_mem.mpr fun k q => ?_
    have := (h.wait si (k := k) List.not_mem_nil).mp q
    rw [hne] at this
    cases this
  · have hd := h.done ok si hp hne hs
    rcases f with f | f | ⟨st, f⟩
    · exact absurd f hne
    · rcases hd with q | ⟨q, st, _⟩
      · exact .inr (.inl (by omega))
      · exact .inr (.inr ⟨st, by omega⟩)
    · rcases hd with q | ⟨_, _, q⟩
      · exact .inr (.inl (by omega))
      · exact absurd st q
theorem Far.done {ss : List (List Wd)} {xs : List Row} {i : Nat} (hi : 2 + 2 * tot ss ≤ i) (f : Far ss i xs) : wt ss xs = [] := by
  rcases f with f | f | ⟨_, f⟩
  · exact f
  · omega
  · omega
end C81

set_option Elab.async false
set_option maxRecDepth 100000
set_option maxHeartbeats 4000000
set_option linter.all false
namespace C81
open PySem L2 My M78
abbrev sRch : Stmt := top 48
abbrev nRch : List Str := ["_law_scripts_here", "_law_tries", "_law_found", "_law_at", "_law_waiting", "_law_here", "_law_k", "_law_there", "_law_refused_here"]
theorem scRch : FnScope nRch ["_law_scripts_here", "_law_tries"] (defScope sRch) := ⟨rfl, rfl, rfl, by decide +kernel, rfl, by decide +kernel, by decide +kernel⟩

/-- how many steps, as the law keeps it -/
def VD (e : Nd) (v : V) : Prop := v = .int (e.d : Int)
section
variable {P : Program} {w : World} {K : PySem.W.Frag} {mg : Str → Option Value} {base : Heap}

def spRch (P : Program) (w : World) : Sp := fun vs H Q _ => ∃ (A : Addr) (ss : List (List Wd)) (tr : Bool), vs = [.ref A, .bl tr] ∧ Tp H (.ref A) (scD ss) ∧ Ok4 ss ∧ (∃ m o, H m = some o ∧ NoT H m) ∧
  ∀ (D : Addr) (H' : Hp) (N : Nat) (bs : List BE), Same H H' → H D = none → Sd P w H' D bs → RelB VD (bfs ss tr N) bs → (bfs ss tr N).length ≤ N → Q (.ref D) H'
theorem pr_rch (D' : Df K mg "_law_reached" sRch ["_law_scripts_here", "_law_tries"]) (T : Ty mg) (PB : Pr P w K mg base 1 "_law_begun" ["_law_scripts_here"] spBegun) (PL : Pr P w K mg base 4 "_law_left" ["_law_scripts_here", "_law_here"] spLeft)
    (PAf : Pr P w K mg base 2 "_law_after" ["_law_scripts_here", "_law_here", "_law_at"] spAfter) : Pr P w K mg base 5 "_law_reached" ["_law_scripts_here", "_law_tries"] (spRch P w) := by
  refine D'.pr scRch (fun vs H Q E h => ?_) (fun f cdv A outer s H vs Q E hr h => ?_)
  · obtain ⟨A, ss, tr, rfl, _⟩ := h
    rfl
  · obtain ⟨A, ss, tr, rfl, tA, ok4, ⟨m, o, hm, nTm⟩, k⟩ := h
    have nd := scRch.nd
    have hr1 := hr.mono (show 1 ≤ 4 by decide)
    have hr2 := hr.mono (show 2 ≤ 4 by decide)
    have ok := ok4.ok
    have hbnd := bnd_small ok4
    have l4 := ok4.l4
    refine ⟨_, (pss_cons (ps_par (by rfl) nd (i := 2) (j := 3) rfl rfl (by decide) rfl rfl (pa_cons (pe_ndisp hr.units (pe_callP PB hr1 (by rfl) (pa_cons (pv 0) pa_nil)) pe_int) (pa_cons pe_int pa_nil)) (by rfl))
      (pss_cons (ps_asg (pe_callTy (call_listN rfl) (by rfl) T.list (by decide +kernel) (pa_cons (pv 2) pa_nil)) (pg_name (i := 4) nd rfl (Or.inl rfl)))
      (pss_cons (ps_while PassesOwn.never (pt_cmpR op_lt (pv 3) (pe_callB call_len (by rfl) T.len PySem.boot_len (pa_cons (pv 4) pa_nil)) (nomark _))
        (pss_cons (ps_asg (pe_ix ix_list (pv 4) (pv 3) (fun _ _ => rfl)) (pg_name (i := 5) nd rfl (Or.inl rfl)))
        (pss_cons (ps_asg (pe_op op_add (pv 3) pe_int) (pg_name (i := 3) nd rfl (Or.inl rfl)))
        (pss_one (ps_for PassesOwn.never rfl (pi_list (pe_callP PL hr (by rfl) (pa_cons (pv 0) (pa_cons (pv 5) pa_nil)))) (pg_name (i := 6) nd rfl (Or.inl rfl))
          (pss_cons (ps_asg (pe_callP PAf hr2 (by rfl) (pa_cons (pv 0) (pa_cons (pv 5) (pa_cons (pv 6) pa_nil)))) (pg_tup rfl (pgs_cons (pg_name (i := 7) nd rfl (Or.inl rfl)) (pgs_cons (pg_name (i := 8) nd rfl (Or.inl rfl)) pgs_nil))))
          (pss_one (ps_if (PW.pt (pw_and (PW.pt (pw_or (pt_val (pv 1)) (pw_or1 (pt_not (pt_val (pv 8)))))) (pw_and1 (pt_cmp (pc_nnotin hr.units (pv 7) (pv 2))))))
            (pss_cons (ps_nput hr.units (pv 2) (pv 7) (pe_op op_add (pe_nget hr.units (pv 2) (pv 5) (fun _ _ => rfl)) pe_int) rfl)
            (pss_one (ps_expr (pe_bm PySem.F.plainAttrs_list PySem.F.slot_list_append PySem.F.type_list_append mt_append (pv 4) (pa_cons (pv 7) pa_nil)))))
            pss_nil))))))))
      (pss_one (ps_ret (pv 2)))))), ?_⟩
    -- found = {begun: 0}
    intro D nD
    generalize hD : upd H D _ = H4
    have sD : Same H H4 := hD ▸ Same.new nD
    have eD : H4 D = some (NDO P w D []) := hD ▸ upd_same
    clear hD
    have nTD : NoT H4 D := fun xs z => by
      rw [eD] at z
      unfold NDO at z
      cases z
    have t4 := tA.mono (.same sD)
    refine ⟨_, rfl, D, A, _, ss, eD, rfl, t4.at nTD, (by omega), fun q2 H5 nq2 s5 a5 => ?_⟩
    have t2 : Tp H5 (.ref q2) (stD (s0 ss)) := a5.tp (isT_st _)
    have eD5 := s5 _ _ eD
    refine ⟨_, _, rfl, eD5, sk (s0 ss), q2, rfl, t2.key, sk_depth _, ?_⟩
    generalize hD6 : upd H5 D _ = H6
    have k56 : KeepT H5 H6 := hD6 ▸ KeepT.ext eD5
    have eD6 : H6 D = some (NDO P w D [kvB (s0 ss, q2, .int 0)]) := hD6 ▸ upd_same
    have sH6 : Same H H6 := fun b u e => by
      rw [← hD6, upd_ne (ne_of_none e nD)]
      exact s5 _ _ (sD _ _ e)
    clear hD6
    refine ⟨_, _, rfl, ?_⟩
    have sd6 : Sd P w H6 D [(s0 ss, q2, .int 0)] := .one eD6 (t2.mono k56)
    -- waiting = list(found)
    refine ⟨_, rfl, ?_⟩
    dsimp only [tNil]
    refine ⟨D, _, rfl, eD6, fun R nR => ?_⟩
    generalize hR : upd H6 R _ = H7
    have s67 : Same H6 H7 := hR ▸ Same.new nR
    have eR : H7 R = some (.lst [.ref q2]) := hR ▸ upd_same
    clear hR
    have hRn : H R = none := Same.free sH6 nR
    have bf7 : Bf P w H7 R D [(s0 ss, q2, .int 0)] := ⟨eR, sd6.same s67⟩
    have rel7 : RelB VD (bfs ss tr 0) [(s0 ss, q2, .int 0)] := .cons ⟨rfl, rfl⟩ .nil
    have t7 := ((t4.mono (.same s5)).mono k56).mono (.same s67)
    have sH7 := Same.tr sH6 s67
    clear t4 a5 eD eD5 eD6 t2 sd6
    -- the search
    refine ⟨fun m σ H6 => ∃ (n : Nat) (bs : List BE) (o5 o6 o7 o8 : Option V), m + n = bnd ss ∧ σ = [some (.ref A), some (.bl tr), some (.ref D), some (.int (n : Int)), some (.ref R), o5, o6, o7, o8] ∧ Bf P w H6 R D bs ∧ RelB VD (bfs ss tr n) bs ∧
        n ≤ (bfs ss tr n).length ∧ Same H H6 ∧ Tp H6 (.ref A) (scD ss), ?_, ?_⟩
    · exact ⟨bnd ss, 0, _, _, _, _, _, rfl, rfl, bf7, rel7, Nat.zero_le _, sH7, t7⟩
    · rintro m' σ H6 ⟨n, bs, o5, o6, o7, o8, hmn, rfl, bf, rel, hnl, s6, t6⟩
      have inv := bfs_inv (tr := tr) ok n
      have hlen := inv.len
      have lbs : bs.length = (bfs ss tr n).length := (paired_len rel).symm
      refine ⟨_, rfl, _, rfl, _, _, rfl, .inl ⟨_, SqL.of bf.rows, rfl⟩, _, _, rfl, rfl, _, rfl, ?_⟩
      rw [List.length_map]
      by_cases hn : n < bs.length
      · rw [decide_eq_true (show (n : Int) < ((bs.length : Nat) : Int) by omega)]
        refine iteT ?_
        obtain ⟨e, he⟩ : ∃ e, (bfs ss tr n)[n]? = some e := ⟨_, List.getElem?_eq_getElem (by omega)⟩
        obtain ⟨b, hb, ebs, _⟩ := rel.at he
        have hem := List.mem_of_getElem? he
        have sie := inv.si e hem
        have tb := bf.sd.tp b (List.mem_of_getElem? hb)
        rw [← ebs] at tb
        have lxs : ss.length = e.s.length := paired_len sie
        refine ⟨fun σ' H' => ∃ (bs : List BE) (o5 o6 o7 o8 : Option V), σ' = [some (.ref A), some (.bl tr), some (.ref D), some (.int ((n + 1 : Nat) : Int)), some (.ref R), o5, o6, o7, o8] ∧ Bf P w H' R D bs ∧ RelB VD (bfs ss tr (n + 1)) bs ∧
            n + 1 ≤ (bfs ss tr (n + 1)).length ∧ Same H H' ∧ Tp H' (.ref A) (scD ss), ?_, ?_⟩
        · rintro σ' H' ⟨bs, o5, o6, o7, o8, r⟩
          exact ⟨m' - 1, by omega, n + 1, bs, o5, o6, o7, o8, by omega, r⟩
        · refine ⟨_, rfl, _, rfl, R, _, _, .ref b.2.1, rfl, rfl, SqL.of bf.rows, atI_nat (by rw [List.getElem?_map, hb]; rfl), ?_⟩
          refine ⟨_, rfl, _, _, rfl, rfl, ?_⟩
          have nT : NoT H6 R := .lst bf.rows
          refine ⟨_, rfl, _, rfl, R, A, b.2.1, ss, e.s, rfl, t6.at nT, tb.at nT, lxs, (by omega), fun q3 H7 nq3 s7 hl7 => ?_⟩
          obtain ⟨ws, hws⟩ : ∃ ws, ws = wt ss e.s := ⟨_, rfl⟩
          rw [show waitL ss e.s e.s.length = ws from hws.symm] at hl7
          refine ⟨q3, rfl, ⟨_, SqL.of hl7⟩, ?_⟩
          have hq3 : H q3 = none := Same.free s6 nq3
          have nq3R : q3 ≠ R := Ne.symm (ne_of_none bf.rows nq3)
          have nq3D : q3 ≠ D := Ne.symm (ne_of_none bf.sd.dict nq3)
          refine for_list (K := K) (xs := ws.map fun k : Nat => V.int (k : Int)) (fun j σ H8 => ∃ (bs : List BE) (o6 o7 o8 : Option V), σ = [some (.ref A), some (.bl tr), some (.ref D), some (.int ((n : Int) + 1)), some (.ref R), some (.ref b.2.1), o6, o7, o8] ∧ Bf P w H8 R D bs ∧
              RelB VD (expN ss tr e (bfs ss tr n) (ws.take j)) bs ∧ Same H H8 ∧ Tp H8 (.ref A) (scD ss) ∧ Tp H8 (.ref b.2.1) (stD e.s) ∧ H8 q3 = some (.lst (ws.map fun k : Nat => V.int (k : Int)))) ?_ ?_ ?_ ?_
          · exact ⟨bs, _, _, _, rfl, bf.same s7, rel, Same.tr s6 s7, t6.mono (.same s7), tb.mono (.same s7), hl7⟩
          · rintro j σ H8 _ ⟨bs, o6, o7, o8, _, _, _, _, _, _, h⟩
            exact SqL.of h
          · rintro j y σ H8 hy ⟨bs, o6, o7, o8, rfl, bf8, rel8, s8, t8, tb8, hl8⟩
            rw [List.getElem?_map] at hy
            obtain ⟨kk, hkk, rfl⟩ := Option.map_eq_some_iff.mp hy
            have hkw : kk ∈ wt ss e.s := hws ▸ List.mem_of_getElem? hkk
            obtain ⟨sc, x, p, v, hsc, hx, hp, hv, hnx, sin, haf⟩ := wt_nx ok sie hkw
            have nT8 : NoT H8 R := .lst bf8.rows
            have inv8 : InvN ss tr (expN ss tr e (bfs ss tr n) (ws.take j)) := inv.exp ok hem fun k hk => hws ▸ List.mem_of_mem_take hk
            obtain ⟨tl, htl⟩ := exp_pre ss tr e (ws.take j) (bfs ss tr n)
            have he8 : e ∈ expN ss tr e (bfs ss tr n) (ws.take j) := by
              rw [htl]
              exact List.mem_append_left _ hem
            refine ⟨_, rfl, _, rfl, _, rfl, R, A, b.2.1, _, ss, e.s, kk, p, sc, x, v, bf8.rows, rfl, t8.at nT8, tb8.at nT8, (by omega), hsc, hx, hp, hv, sie.nonneg, fun q4 H9 s9 a9 => ?_⟩
            rw [haf] at a9
            have e1 : (nx ss e.s kk).1 = e.s.set kk (triedM v x (topM e.s kk)).1 := by rw [hnx]
            have e2 : (nx ss e.s kk).2 = (triedM v x (topM e.s kk)).2 := by rw [hnx]
            rw [← e1, ← e2] at a9
            obtain ⟨_, u9, eu, _, h9, au⟩ := at_tup a9
            cases eu
            cases au with
            | @cons va _ _ _ aa ar =>
              cases ar with
              | cons ab ar2 =>
                cases ar2
                cases ab
                have ta9 := aa.tp (isT_st _)
                obtain ⟨a4, x4, rfl, _, _⟩ := Tp.ref (ds := (nx ss e.s kk).1.map rowD) ta9
                refine ⟨_, _, rfl, SqT.of h9, rfl, _, _, rfl, _, _, rfl, rfl, ?_⟩
                have bf9 := bf8.same s9
                have s89 := Same.tr s8 s9
                have t9 := t8.mono (.same s9)
                have tb9 := tb8.mono (.same s9)
                have skip : ∀ (hs : stepN ss tr e (expN ss tr e (bfs ss tr n) (ws.take j)) kk = expN ss tr e (bfs ss tr n) (ws.take j)), RelB VD (expN ss tr e (bfs ss tr n) (ws.take (j + 1))) bs := fun hs => by
                  rw [exp_take hkk, hs]
                  exact rel8
                -- the test
                refine ⟨_, rfl, _, rfl, ?_⟩
                cases htr : tr
                · subst htr
                  refine iteF ⟨_, rfl, _, rfl, ?_⟩
                  cases hrf : (nx ss e.s kk).2
                  · have hst : stepN ss false e (expN ss false e (bfs ss false n) (ws.take j)) kk = addN (expN ss false e (bfs ss false n) (ws.take j)) e (nx ss e.s kk).1 kk := by
                      unfold stepN
                      rw [if_pos (by rw [hrf]; rfl)]
                    refine iteT ?_
                    refine ⟨_, rfl, _, rfl, bs.map kvB, sk (nx ss e.s kk).1, D, a4, bf9.sd.key ta9, ?_⟩
                    rw [getB_is, getB_isSome, rel8.states]
                    refine ⟨_, rfl, ?_⟩
                    by_cases hin9 : (nx ss e.s kk).1 ∈ (expN ss false e (bfs ss false n) (ws.take j)).map Nd.s
                    · rw [decide_eq_true hin9]
                      refine iteF ?_
                      refine ⟨bs, _, _, _, rfl, bf9, skip ?_, s89, t9, tb9, s9 _ _ hl8⟩
                      rw [hst]
                      unfold addN
                      rw [if_pos hin9]
                    · rw [decide_eq_false hin9]
                      refine iteT ?_
                      obtain ⟨ve, hve, vde⟩ := rel8.val bf9.sd.nd he8
                      cases vde
                      have l10 : bs.length = (expN ss false e (bfs ss false n) (ws.take j)).length := (paired_len rel8).symm
                      have hlen10 := inv8.len
                      refine ⟨_, rfl, _, rfl, bs.map kvB, sk e.s, D, b.2.1, _, bf9.sd.key tb9, by rw [getB_is]; exact hve, _, _, rfl, rfl, ?_⟩
                      refine ⟨_, rfl, _, rfl, bs.map kvB, sk (nx ss e.s kk).1, D, a4, bf9.sd.key ta9, (by rw [List.length_map]; exact Nat.lt_of_le_of_lt (show bs.length ≤ 4100625 by omega) (by decide)), ?_⟩
                      have hR10 : upd H9 D (NDO P w D (putN (bs.map kvB) (sk (nx ss e.s kk).1) a4 (.int ((e.d : Int) + 1)))) R = some (.lst (bs.map fun b => V.ref b.2.1)) := by
                        rw [upd_ne bf9.ne]
                        exact bf9.rows
                      refine ⟨_, rfl, .inl ⟨rfl, _, SqL.of hR10⟩, _, rfl, R, _, _, rfl, rfl, hR10, (by rw [List.length_map]; exact Nat.lt_of_le_of_lt (show bs.length ≤ 4100625 by omega) (by decide)), ?_⟩
                      have hx10 : (nx ss e.s kk).1 ∉ bs.map (·.1) := by
                        rw [rel8.states]
                        exact hin9
                      have bfP := bf9.push (v := .int ((e.d : Int) + 1)) hx10 ta9
                      have kP : KeepT H9 _ := (KeepT.ext (o := NDO P w D (putN (bs.map kvB) (sk (nx ss e.s kk).1) a4 (.int ((e.d : Int) + 1)))) bf9.sd.dict).trans (KeepT.lst (o := .lst ((bs.map fun b => V.ref b.2.1) ++ [.ref a4])) hR10)
                      refine ⟨bs ++ [((nx ss e.s kk).1, a4, V.int ((e.d : Int) + 1))], _, _, _, rfl, bfP, ?_, fun bb u eb => ?_, t9.mono kP, tb9.mono kP, ?_⟩
                      · rw [exp_take hkk, hst]
                        unfold addN
                        rw [if_neg hin9]
                        exact rel8.push rfl rfl
                      · rw [upd_ne (ne_of_none eb hRn), upd_ne (ne_of_none eb nD)]
                        exact s89 _ _ eb
                      · rw [upd_ne nq3R, upd_ne nq3D]
                        exact s9 _ _ hl8
                  · refine iteF ?_
                    refine iteF ?_
                    refine ⟨bs, _, _, _, rfl, bf9, skip ?_, s89, t9, tb9, s9 _ _ hl8⟩
                    unfold stepN
                    rw [if_neg (by rw [hrf]; decide)]
                · subst htr
                  refine iteT ?_
                  have hst : stepN ss true e (expN ss true e (bfs ss true n) (ws.take j)) kk = addN (expN ss true e (bfs ss true n) (ws.take j)) e (nx ss e.s kk).1 kk := by
                    unfold stepN
                    rw [if_pos (by rfl)]
                  refine iteT ?_
                  refine ⟨_, rfl, _, rfl, bs.map kvB, sk (nx ss e.s kk).1, D, a4, bf9.sd.key ta9, ?_⟩
                  rw [getB_is, getB_isSome, rel8.states]
                  refine ⟨_, rfl, ?_⟩
                  by_cases hin9 : (nx ss e.s kk).1 ∈ (expN ss true e (bfs ss true n) (ws.take j)).map Nd.s
                  · rw [decide_eq_true hin9]
                    refine iteF ?_
                    refine ⟨bs, _, _, _, rfl, bf9, skip ?_, s89, t9, tb9, s9 _ _ hl8⟩
                    rw [hst]
                    unfold addN
                    rw [if_pos hin9]
                  · rw [decide_eq_false hin9]
                    refine iteT ?_
                    obtain ⟨ve, hve, vde⟩ := rel8.val bf9.sd.nd he8
                    cases vde
                    have l10 : bs.length = (expN ss true e (bfs ss true n) (ws.take j)).length := (paired_len rel8).symm
                    have hlen10 := inv8.len
                    refine ⟨_, rfl, _, rfl, bs.map kvB, sk e.s, D, b.2.1, _, bf9.sd.key tb9, by rw [getB_is]; exact hve, _, _, rfl, rfl, ?_⟩
                    refine ⟨_, rfl, _, rfl, bs.map kvB, sk (nx ss e.s kk).1, D, a4, bf9.sd.key ta9, (by rw [List.length_map]; exact Nat.lt_of_le_of_lt (show bs.length ≤ 4100625 by omega) (by decide)), ?_⟩
                    have hR10 : upd H9 D (NDO P w D (putN (bs.map kvB) (sk (nx ss e.s kk).1) a4 (.int ((e.d : Int) + 1)))) R = some (.lst (bs.map fun b => V.ref b.2.1)) := by
                      rw [upd_ne bf9.ne]
                      exact bf9.rows
                    refine ⟨_, rfl, .inl ⟨rfl, _, SqL.of hR10⟩, _, rfl, R, _, _, rfl, rfl, hR10, (by rw [List.length_map]; exact Nat.lt_of_le_of_lt (show bs.length ≤ 4100625 by omega) (by decide)), ?_⟩
                    have hx10 : (nx ss e.s kk).1 ∉ bs.map (·.1) := by
                      rw [rel8.states]
                      exact hin9
                    have bfP := bf9.push (v := .int ((e.d : Int) + 1)) hx10 ta9
                    have kP : KeepT H9 _ := (KeepT.ext (o := NDO P w D (putN (bs.map kvB) (sk (nx ss e.s kk).1) a4 (.int ((e.d : Int) + 1)))) bf9.sd.dict).trans (KeepT.lst (o := .lst ((bs.map fun b => V.ref b.2.1) ++ [.ref a4])) hR10)
                    refine ⟨bs ++ [((nx ss e.s kk).1, a4, V.int ((e.d : Int) + 1))], _, _, _, rfl, bfP, ?_, fun bb u eb => ?_, t9.mono kP, tb9.mono kP, ?_⟩
                    · rw [exp_take hkk, hst]
                      unfold addN
                      rw [if_neg hin9]
                      exact rel8.push rfl rfl
                    · rw [upd_ne (ne_of_none eb hRn), upd_ne (ne_of_none eb nD)]
                      exact s89 _ _ eb
                    · rw [upd_ne nq3R, upd_ne nq3D]
                      exact s9 _ _ hl8
          · rintro σ H8 ⟨bs, o6, o7, o8, rfl, bf8, rel8, s8, t8, tb8, hl8⟩
            rw [List.length_map, List.take_length] at rel8
            have hbn : bfs ss tr (n + 1) = expN ss tr e (bfs ss tr n) ws := by
              rw [bfs_next he, hws]
            rw [← hbn] at rel8
            obtain ⟨tl, htl⟩ := bfs_pre ss tr n
            refine ⟨bs, _, _, _, _, rfl, bf8, rel8, ?_, s8, t8⟩
            rw [htl, List.length_append]
            omega
      · rw [decide_eq_false (show ¬ (n : Int) < ((bs.length : Nat) : Int) by omega)]
        refine iteF ?_
        exact ⟨_, rfl, k D _ n bs s6 nD bf.sd rel (by omega)⟩
end
end C81

set_option Elab.async false
set_option maxRecDepth 100000
set_option maxHeartbeats 4000000
set_option linter.all false
namespace C81
open PySem L2 My M78
abbrev sAny : Stmt := top 49
abbrev nAny : List Str := ["_law_scripts_here", "_law_here", "_law_k"]
theorem scAny : FnScope nAny ["_law_scripts_here", "_law_here"] (defScope sAny) := ⟨rfl, rfl, rfl, by decide +kernel, rfl, by decide +kernel, by decide +kernel⟩
section
variable {P : Program} {w : World} {K : PySem.W.Frag} {mg : Str → Option Value} {base : Heap}
def spAny : Sp := fun vs H Q _ => ∃ (A B : Addr) (ss : List (List Wd)) (xs : List Row), vs = [.ref A, .ref B] ∧ Tp H (.ref A) (scD ss) ∧ Tp H (.ref B) (stD xs) ∧ SI ss xs ∧ Ok4 ss ∧ (∃ m, NoT H m) ∧ ∀ H', Same H H' → Q (.bl (rfd ss xs)) H'
theorem pr_any (D' : Df K mg "_law_any_refused" sAny ["_law_scripts_here", "_law_here"]) (TA : mg "any" = none) (PL : Pr P w K mg base 4 "_law_left" ["_law_scripts_here", "_law_here"] spLeft)
    (PAf : Pr P w K mg base 2 "_law_after" ["_law_scripts_here", "_law_here", "_law_at"] spAfter) : Pr P w K mg base 5 "_law_any_refused" ["_law_scripts_here", "_law_here"] spAny := by
  refine D'.pr scAny (fun vs H Q E h => ?_) (fun f cdv A outer s H vs Q E hr h => ?_)
  · obtain ⟨A, B, ss, xs, rfl, _⟩ := h
    rfl
  · obtain ⟨A, B, ss, xs, rfl, tA, tB, si, ok4, ⟨mm, hmm⟩, k⟩ := h
    have nd := scAny.nd
    have hr2 := hr.mono (show 2 ≤ 4 by decide)
    have l4 := ok4.l4
    have lxs : ss.length = xs.length := paired_len si
    refine ⟨_, (pss_one (ps_ret (pe_callB (cr_any rfl) (by rfl) TA (by decide +kernel) (pa_cons (pe_lc (own := [("_law_k", 2)]) (g := gName 2) (tt := tYes) (te := tOp (rIxT K) (tCall spAfter [] E0 (tCons (tVar 0) (tCons (tVar 1) (tCons (tVar 2) tNil)))) (tC (.int 1))) (by rfl) nd (pi_list (pe_callP PL hr (by rfl) (pa_cons (pv 0) (pa_cons (pv 1) pa_nil))))
  (blkOk_by (own := [("_law_k", 2)]) (N := nAny) (sc := defScope sAny) (by decide +kernel))
  (fun _ _ _ _ _ => pg_name (i := 2) nd rfl (Or.inl rfl) (Or.inr rfl)) (fun _ _ _ _ _ => pts_nil)
  (fun _ _ _ _ _ => (pe_ix ix_tup (pe_callP PAf hr2 (by rfl) (pa_cons (pv 0) (pa_cons (pv 1) (pa_cons (pv 2) pa_nil)))) pe_int (fun _ _ => rfl)))) pa_nil)))), ?_⟩
    refine ⟨_, rfl, _, rfl, mm, A, B, ss, xs, rfl, tA.at hmm, tB.at hmm, lxs, (by omega), fun Lf H2 nLf s2 hLf => ?_⟩
    obtain ⟨ws, hws⟩ : ∃ ws, ws = wt ss xs := ⟨_, rfl⟩
    rw [show waitL ss xs xs.length = ws from hws.symm] at hLf
    refine ⟨Lf, rfl, ⟨_, SqL.of hLf⟩, fun Dl hD => ?_⟩
    refine lc_list (K := K) (a := Lf) (xs := ws.map fun k : Nat => V.int (k : Int)) (fun i H3 => Same H2 H3 ∧ H3 Dl = some (.lst (((ws.take i).map fun k => (nx ss xs k).2).map V.bl))) ?_ ?_ ?_ ?_
    · exact ⟨same_new hD, upd_same⟩
    · exact fun i H3 _ q => SqL.of (q.1 _ _ hLf)
    · rintro i y H3 hy ⟨s3, hl3⟩
      rw [List.getElem?_map] at hy
      obtain ⟨kk, hkk, rfl⟩ := Option.map_eq_some_iff.mp hy
      have hkw : kk ∈ wt ss xs := hws ▸ List.mem_of_getElem? hkk
      obtain ⟨sc, x, p, v, hsc, hx, hp, hv, hnx, sin, haf⟩ := wt_nx ok4.ok si hkw
      have s23 := Same.tr s2 s3
      have nT3 : NoT H3 Dl := .lst hl3
      have t3 := tA.mono (.same s23)
      have tb3 := tB.mono (.same s23)
      refine ⟨rfl, ?_⟩
      refine ⟨_, rfl, _, rfl, _, rfl, Dl, A, B, _, ss, xs, kk, p, sc, x, v, hl3, rfl, t3.at nT3, tb3.at nT3, (by omega), hsc, hx, hp, hv, si.nonneg, fun q4 H4 s4 a4 => ?_⟩
      rw [haf] at a4
      obtain ⟨_, u4, eu, _, h4, au⟩ := at_tup a4
      cases eu
      cases au with
      | @cons va _ _ _ aa ar =>
        cases ar with
        | cons ab ar2 =>
          cases ar2
          cases ab
          refine ⟨_, _, _, _, rfl, rfl, SqT.of h4, rfl, ?_⟩
          refine ⟨_, s4 _ _ hl3, ?_, ?_, ?_⟩
          · rw [List.length_map, List.length_map, List.length_take]
            have : ws.length ≤ 4 := by
              have h : (wt ss xs).length ≤ xs.length := waitL_len ss xs xs.length
              rw [hws]
              omega
            exact small6 (by omega)
          · intro b u e
            rw [upd_ne (ne_of_none e hD)]
            exact s4 _ _ (s3 _ _ e)
          · have e2 : (nx ss xs kk).2 = (triedM v x (topM xs kk)).2 := by rw [hnx]
            rw [upd_same, take_succ' hkk, List.map_append, List.map_append, ← e2]
            rfl
    · rintro H3 ⟨s3, hl3⟩
      rw [List.length_map, List.take_length] at hl3
      refine ⟨_, _, rfl, SqL.of hl3, ?_⟩
      have : (ws.map fun k => (nx ss xs k).2).any id = rfd ss xs := by
        unfold rfd
        rw [List.any_map, hws]
        rfl
      rw [this]
      exact k _ (Same.tr s2 s3)
end
end C81

set_option Elab.async false
set_option maxRecDepth 100000
set_option maxHeartbeats 4000000
set_option linter.all false
namespace C81
open PySem L2 My M78
abbrev sLs : Stmt := top 50
abbrev nLs : List Str := ["_law_scripts_here", "_law_here", "_law_some", "_law_k"]
theorem scLs : FnScope nLs ["_law_scripts_here", "_law_here"] (defScope sLs) := ⟨rfl, rfl, rfl, by decide +kernel, rfl, by decide +kernel, by decide +kernel⟩
def boolD (bs : List Bool) : List PyData := bs.map .bool
theorem shaped_bools (bs : List Bool) : SeqAt.shaped (.list (boolD bs)) = true := by
  have h1 : PyData.canLayAll0 (boolD bs) = true := by
    induction bs with
    | nil => rfl
    | cons k r ih =>
      show (PyData.canLay0 (.bool k) && PyData.canLayAll0 (boolD r)) = true
      rw [ih]
      rfl
  have h2 : PyData.depthAll (boolD bs) = 0 := by
    clear h1
    induction bs with
    | nil => rfl
    | cons k r ih =>
      show max (PyData.depth (.bool k)) (PyData.depthAll (boolD r)) = 0
      rw [ih]
      rfl
  unfold SeqAt.shaped
  rw [Bool.and_eq_true_iff]
  refine ⟨?_, decide_eq_true ?_⟩
  · simpa only [PyData.canLay0] using h1
  · simp only [PyData.depth]
    rw [h2]
    decide

theorem eqv_bools_e (l : List Bool) : PyData.eqv (.list (boolD l)) (.list []) = l.isEmpty := by
  cases l <;> rfl
theorem at_bools {m : Addr} {H : Hp} : ∀ bs : List Bool, AtAll m H (bs.map V.bl) (boolD bs)
  | [] => .nil
  | b :: r => .cons (.bl b) (at_bools r)

def sts (ss : List (List Wd)) (ks : List Nat) (j : Nat) : List Row := runs ss (s0 ss) (ks.take j)
theorem Pth.at {ss : List (List Wd)} {ks : List Nat} {ys : List Row} {tr : Bool} (h : Pth ss tr (s0 ss) ks ys) (ok : ∀ sc ∈ ss, okScr sc) {j kk : Nat} (hj : ks[j]? = some kk) :
    SI ss (sts ss ks j) ∧ kk ∈ wt ss (sts ss ks j) ∧ sts ss ks (j + 1) = (nx ss (sts ss ks j) kk).1 := by
  have hl : j < ks.length := (List.getElem?_eq_some_iff.mp hj).1
  refine ⟨(h.take j (by omega)).si ok (SI.zero ss), (h.runs.2 j kk hj).1, ?_⟩
  unfold sts
  rw [take_succ' hj, runs_snoc]
theorem Pth.last {ss : List (List Wd)} {ks : List Nat} {ys : List Row} {tr : Bool} (h : Pth ss tr (s0 ss) ks ys) : sts ss ks ks.length = ys := by
  unfold sts
  rw [List.take_length]
  exact h.runs.1
section
variable {P : Program} {w : World} {K : PySem.W.Frag} {mg : Str → Option Value} {base : Heap}

theorem pr_ls (D' : Df K mg "_law_is_stuck" sLs ["_law_scripts_here", "_law_here"]) (T : Ty mg) (PL : Pr P w K mg base 4 "_law_left" ["_law_scripts_here", "_law_here"] spLeft)
    (PAf : Pr P w K mg base 2 "_law_after" ["_law_scripts_here", "_law_here", "_law_at"] spAfter) : Pr P w K mg base 5 "_law_is_stuck" ["_law_scripts_here", "_law_here"] spIss := by
  refine D'.pr scLs (fun vs H Q E h => ?_) (fun f cdv A outer s H vs Q E hr h => ?_)
  · obtain ⟨A, B, ss, xs, rfl, _⟩ := h
    rfl
  · obtain ⟨A, B, ss, xs, rfl, tA, tB, si, ok4, ⟨mm, hmm⟩, k⟩ := h
    have nd := scLs.nd
    have hr2 := hr.mono (show 2 ≤ 4 by decide)
    have l4 := ok4.l4
    have lxs : ss.length = xs.length := paired_len si
    refine ⟨_, (pss_cons (ps_setLc (i := 2) (own := [("_law_k", 3)]) (g := gName 3) (tt := tYes) (te := tOp (rIxT K) (tCall spAfter [] E0 (tCons (tVar 0) (tCons (tVar 1) (tCons (tVar 3) tNil)))) (tC (.int 1))) (by rfl) nd rfl rfl (sw_true rfl rfl rfl (by decide +kernel)) (pi_list (pe_callP PL hr (by rfl) (pa_cons (pv 0) (pa_cons (pv 1) pa_nil))))
  (blkOk_by (own := [("_law_k", 3)]) (N := nLs) (sc := defScope sLs) (by decide +kernel))
  (fun _ _ _ _ _ => pg_name (i := 3) nd rfl (Or.inl rfl) (Or.inr rfl)) (fun _ _ _ _ _ => pts_nil)
  (fun _ _ _ _ _ => (pe_ix ix_tup (pe_callP PAf hr2 (by rfl) (pa_cons (pv 0) (pa_cons (pv 1) (pa_cons (pv 3) pa_nil)))) pe_int (fun _ _ => rfl))))
      (pss_one (ps_ret (pe_and (pe_cmpR (op_neD hr.units) (pv 2) (pe_lst pa_nil) (nomark _)) (pe_one (pe_callB (cr_all rfl) (by rfl) T.all (by decide +kernel) (pa_cons (pv 2) pa_nil))))))), ?_⟩
    refine ⟨_, rfl, _, rfl, mm, A, B, ss, xs, rfl, tA.at hmm, tB.at hmm, lxs, (by omega), fun Lf H2 nLf s2 hLf => ?_⟩
    obtain ⟨ws, hws⟩ : ∃ ws, ws = wt ss xs := ⟨_, rfl⟩
    rw [show waitL ss xs xs.length = ws from hws.symm] at hLf
    refine ⟨Lf, rfl, ⟨_, SqL.of hLf⟩, fun Dl hD => ?_⟩
    refine lc_list (K := K) (a := Lf) (xs := ws.map fun k : Nat => V.int (k : Int)) (fun i H3 => Same H2 H3 ∧ H3 Dl = some (.lst (((ws.take i).map fun k => (nx ss xs k).2).map V.bl))) ?_ ?_ ?_ ?_
    · exact ⟨same_new hD, upd_same⟩
    · exact fun i H3 _ q => SqL.of (q.1 _ _ hLf)
    · rintro i y H3 hy ⟨s3, hl3⟩
      rw [List.getElem?_map] at hy
      obtain ⟨kk, hkk, rfl⟩ := Option.map_eq_some_iff.mp hy
      have hkw : kk ∈ wt ss xs := hws ▸ List.mem_of_getElem? hkk
      obtain ⟨sc, x, p, v, hsc, hx, hp, hv, hnx, sin, haf⟩ := wt_nx ok4.ok si hkw
      have s23 := Same.tr s2 s3
      have nT3 : NoT H3 Dl := .lst hl3
      have t3 := tA.mono (.same s23)
      have tb3 := tB.mono (.same s23)
      refine ⟨rfl, ?_⟩
      refine ⟨_, rfl, _, rfl, _, rfl, Dl, A, B, _, ss, xs, kk, p, sc, x, v, hl3, rfl, t3.at nT3, tb3.at nT3, (by omega), hsc, hx, hp, hv, si.nonneg, fun q4 H4 s4 a4 => ?_⟩
      rw [haf] at a4
      obtain ⟨_, u4, eu, _, h4, au⟩ := at_tup a4
      cases eu
      cases au with
      | @cons va _ _ _ aa ar =>
        cases ar with
        | cons ab ar2 =>
          cases ar2
          cases ab
          refine ⟨_, _, _, _, rfl, rfl, SqT.of h4, rfl, ?_⟩
          refine ⟨_, s4 _ _ hl3, ?_, ?_, ?_⟩
          · rw [List.length_map, List.length_map, List.length_take]
            have : ws.length ≤ 4 := by
              have h : (wt ss xs).length ≤ xs.length := waitL_len ss xs xs.length
              rw [hws]
              omega
            exact small6 (by omega)
          · intro b u e
            rw [upd_ne (ne_of_none e hD)]
            exact s4 _ _ (s3 _ _ e)
          · have e2 : (nx ss xs kk).2 = (triedM v x (topM xs kk)).2 := by rw [hnx]
            rw [upd_same, take_succ' hkk, List.map_append, List.map_append, ← e2]
            rfl
    · rintro H3 ⟨s3, hl3⟩
      rw [List.length_map, List.take_length] at hl3
      have s23 := Same.tr s2 s3
      refine ⟨_, rfl, (by show 0 ≤ sizeLine; decide), fun N1 nN1 => ?_⟩
      generalize hN1 : upd H3 N1 _ = H4
      have sN1 : Same H3 H4 := hN1 ▸ Same.new nN1
      have eN1 : H4 N1 = some (.lst []) := hN1 ▸ upd_same
      clear hN1
      refine ⟨_, _, Dp.lst (SqL.of (sN1 _ _ hl3)) (at_bools (m := Lf) _).dp, Dp.lst (SqL.of eN1) .nil, shaped_bools _, rfl, ?_⟩
      rw [eqv_bools_e]
      refine ⟨_, rfl, ?_⟩
      have hem : (ws.map fun k => (nx ss xs k).2).isEmpty = ws.isEmpty := by cases ws <;> rfl
      rw [hem]
      have s4 := Same.tr s23 sN1
      cases hE : ws.isEmpty
      · refine iteT ?_
        refine ⟨_, rfl, _, _, rfl, SqL.of (sN1 _ _ hl3), ?_⟩
        have : (ws.map fun k => (nx ss xs k).2).all id = stk ss xs := by
          unfold stk
          rw [List.all_map, ← hws, hE]
          rfl
        rw [this]
        exact k _ s4
      · refine iteF ?_
        have : stk ss xs = false := by
          unfold stk
          rw [← hws, hE]
          rfl
        rw [← this]
        exact k _ s4
end
end C81

set_option Elab.async false
set_option maxRecDepth 100000
set_option maxHeartbeats 4000000
set_option linter.all false
/-! The law's own def, run where no repr is under way; repr of data. -/
namespace My
open PySem PySem.Spec PyProof.Rows L2
/-- as FnOk, of calls that no repr is around -/
structure FnG (P : Program) (w : World) (K : PySem.W.Frag) (mg : Str → Option Value) (base : Heap) (k : Nat) (f : Addr) (fd : FuncData) (ps : List Str) (sp : Sp) : Prop where
  len : ∀ vs H Q E, sp vs H Q E → vs.length = ps.length
  run : ∀ (A : Around) (outer : List Env) (s : Shared) (H : Hp) (args : Args) (us : List Value) (vs : List V) (Q : VK) (E : XK), A.guards = some [] → Room k A → Env0 P w K mg base A outer s H → BindsTo s fd args (ps.zip us) → Vals vs us → sp vs H Q E →
    codeAny (model P w) A (.call (.ref f) args) (CR CX0 outer P w H s Q E) s
theorem FnG.of {P : Program} {w : World} {K : PySem.W.Frag} {mg : Str → Option Value} {base : Heap} {k : Nat} {f : Addr} {fd : FuncData} {ps : List Str} {sp : Sp}
    (len : ∀ vs H Q E, sp vs H Q E → vs.length = ps.length)
    (h : ∀ A : Around, A.guards = some [] → FnOk P w K mg base CX0 k f fd ps (fun vs H Q E => sp vs H Q E)) : FnG P w K mg base k f fd ps sp :=
  ⟨len, fun A outer s H args us vs Q E hg hr e0 hb r hsp => (h A hg).run A outer s H args us vs Q E hr e0 hb r hsp⟩
theorem Fun.okG {P : Program} {w : World} {K : PySem.W.Frag} {mg : Str → Option Value} {base : Heap} {x qual : Str} {st : Stmt} {f : Addr} {fd : FuncData} {N ps : List Str} {k : Nat} {sp : Sp} (F : Fun K x qual st f fd) (S : FnScope N ps (defScope st))
    (len : ∀ vs H Q E, sp vs H Q E → vs.length = ps.length)
    (hbody : ∀ (cdv : Value) (A : Around) (outer : List Env) (s : Shared) (H : Hp) (vs : List V) (Q : VK) (E : XK), A.guards = some [] → Room k (A.deeper (envOfC qual (defScope st) s.heap.objs.size f cdv)) → sp vs H Q E →
      ∃ t, PSs (cxOf CX0 P w K mg base N qual (defScope st) f cdv A outer s H E).nox (defBody st) t ∧ t { nx := fun _ H' => Q .non H', rt := Q } (start N vs) H) : FnG P w K mg base (k + 1) f fd ps sp := by
  obtain ⟨oc, od, kV, doc, pm, an, cdv, ct, osl, rfl, lk, hcd⟩ := F.ex
  refine ⟨len, fun A outer s H args us vs Q E hg hr e0 hb r hsp => ?_⟩
  have hl := len _ _ _ _ hsp
  have KX : K.In s.heap := e0.mod.kin.keeps fun b o e => (e0.bs b o e).1
  have lim : s.heap.NoLimit := e0.mod.nolimit.keeps fun b o e => (e0.bs b o e).1
  have kinds : ∀ y ∈ ps.zip us, (defScope st).names.lookup y.1 = some .local ∨ ((defScope st).names.lookup y.1 = some .cell ∧ ((cellsFrom (s.heap.objs.size + 1) (defScope st).names []).lookup y.1).isSome = true) := fun ⟨n, v⟩ hy => by
    rcases S.par n (List.of_mem_zip hy).1 with q | q
    · exact .inl q
    · exact .inr ⟨q, PySem.W.cellsFrom_some _ _ _ (.inl q)⟩
  refine codeAny_call_function hr.depth (KX _ _ lk) rfl S.co S.gen rfl (PySem.W.codeRec_of KX hcd) (hb _ _ _ _ ?_)
  refine wpAny_newFunctionEnv_cells S.kind kinds fun env he s1 x => ?_
  subst he
  refine ⟨lim.keeps x.toInCall.keep, codeAny_func ?_⟩
  obtain ⟨t, ht, hq⟩ := hbody cdv A outer s H vs Q E hg (hr.deeper _) hsp
  have I : Inv (cxOf CX0 P w K mg base N qual (defScope st) f cdv A outer s H E) [] (start N vs) H s1 := inv_start S hr.hd e0 hl r x
  refine wpAny_mono (ht.nox.run [] s1 (start N vs) H _ I hq) (fun fl s' hs => ?_) fun e s' hs => hs
  have fin : ∀ {σ' : L2.St} {H' : Hp} {v : V} {u : Value}, Inv (cxOf CX0 P w K mg base N qual (defScope st) f cdv A outer s H E) [] σ' H' s' → RelV v u → Q v H' → CE outer P w H s Q u s' :=
    fun {σ' H' v u} J rv q => ⟨v, H', J.os, J.bare, J.base, J.hok, rv, q⟩
  cases fl with
  | ret u =>
    obtain ⟨v, σ', H', J, rv, q⟩ := hs
    exact fin J rv q
  | next =>
    obtain ⟨σ', H', J, q⟩ := hs
    exact fin (v := V.non) (u := Value.none) J rfl q
  | brk =>
    obtain ⟨_, _, _, q⟩ := hs
    exact False.elim q
  | cont =>
    obtain ⟨_, _, _, q⟩ := hs
    exact False.elim q
theorem law_callG {P : Program} {w : World} {K : PySem.W.Frag} {mg mb : Str → Option Value} {k : Nat} {fa a : Addr} {fd : FuncData} {x : Str} {sp : Sp} {s₁ : Shared} {vs : List Value} {ns : List Int}
    (KX : K.In s₁.heap) (hns : s₁.heap.Ns mainGlobals mg) (hb : s₁.heap.Ns builtinsNs mb) (hbb : ∀ x : Str, x ≠ "__name__" → mb x = bootBuiltins x) (hlim : s₁.heap.NoLimit) (hg : s₁.gens = #[])
    (ha : s₁.heap.get? a = some { cls := .type "list", data := .seq vs.toArray }) (hi : IntsAre vs ns) (hl : ns.length ≤ sizeLine) (hr : Room k callerA)
    (F : ∀ base : Heap, K.In base → base.Ns mainGlobals mg → FnG P w K mg base k fa fd [x] sp) (hbind : ∀ (s : Shared) (u : Value), BindsTo s fd ⟨[u], []⟩ [(x, u)])
    (hsp : ∀ H : Hp, Only H → SqL K H a (ns.map V.int) → sp [.ref a] H (fun v _ => v = .bl true) fun _ _ _ => False) :
    codeAny (model P w) callerA (.call (.ref fa) ⟨[.ref a], []⟩) (fun r s' => r = .ok (.ret (.bool true)) ∧ OldK s₁.heap s'.heap ∧ s'.os = s₁.os ∧ AllBare s'.gens) s₁ := by
  have rv := vals_ints hi
  have lv := hi.length
  have core : ∀ H : Hp, Only H → SqL K H a (ns.map V.int) → HOk P w H s₁.heap → (∀ b, H b ≠ none → b = a) → (H a ≠ none → K.lookup a = none) →
      codeAny (model P w) callerA (.call (.ref fa) ⟨[.ref a], []⟩) (fun r s' => r = .ok (.ret (.bool true)) ∧ OldK s₁.heap s'.heap ∧ s'.os = s₁.os ∧ AllBare s'.gens) s₁ := by
    intro H hO hS hok hA hK
    have hid : ∀ {b : Addr} {o : Obj}, s₁.heap.get? b = some o → H b = none → (hidT s₁.heap H).get? b = some o := fun e n => hidT_get e n
    have noA : ∀ {b : Addr} {o : Obj} {es : Array DictEntry} {ep : Nat}, s₁.heap.get? b = some o → o.data = .dict es ep → H b = none := fun {b o es ep} e d => by
      cases q : H b with
      | none => rfl
      | some u =>
        have e' : b = a := hA b (by rw [q]; simp)
        subst e'
        rw [ha] at e
        cases e
        exact nomatch (show Data.seq vs.toArray _ = Data.dict es ep from d)
    have nsK : ∀ {b : Addr} {m : Str → Option Value}, s₁.heap.Ns b m → (hidT s₁.heap H).Ns b m := fun {b m} ⟨o, es, ep, e, d, r⟩ => ⟨o, es, ep, hid e (noA e d), d, r⟩
    have kb : K.In (hidT s₁.heap H) := fun b o e => hid (KX b o e) (by
      cases q : H b with
      | none => rfl
      | some u =>
        have e' : b = a := hA b (by rw [q]; simp)
        subst e'
        rw [hK (by rw [q]; simp)] at e
        cases e)
    have md : Mod K mg (hidT s₁.heap H) := ⟨kb, nsK hns, ⟨mb, nsK hb, hbb⟩, let ⟨mc, h1, h2⟩ := hlim; ⟨mc, nsK h1, h2⟩⟩
    have e0 : Env0 P w K mg (hidT s₁.heap H) callerA [] s₁ H := ⟨rfl, md, fun b o e => of_hidT e, Nat.le_of_eq (hidT_size _ _), trivial, fun b hb => absurd (show b ∈ ([] : List Addr) from hb) (by simp), hok, .of_eq hg⟩
    refine codeAny_mono ((F _ kb (nsK hns)).run callerA [] s₁ H ⟨[.ref a], []⟩ [.ref a] [.ref a] _ _ rfl hr e0 (hbind s₁ (.ref a)) (.cons rfl .nil) (hsp H hO hS)) fun r s' h => ?_
    cases r with
    | error e => exact False.elim h
    | ok fl =>
      cases fl with
      | next => exact False.elim h
      | brk => exact False.elim h
      | cont => exact False.elim h
      | ret u =>
        obtain ⟨v, H', os, bare, un, hok', r', q⟩ := h
        have q' : v = .bl true := q
        subst q'
        obtain rfl : u = Value.bool true := r'
        refine ⟨rfl, OldK.of_keep fun b o e => ?_, os, bare⟩
        cases q : H b with
        | none => exact un.keep b o e q (by intro z; exact absurd (show b ∈ ([] : List Addr) from z) (by simp)) (by simp)
        | some u =>
          rcases hO b with z | ⟨ob, xs, z⟩
          · rw [q] at z
            cases z
          · have z2 := un.frzs b ob _ z
            obtain ⟨e1, _⟩ := hok b _ z
            obtain ⟨e2, _⟩ := hok' b _ z2
            rw [e] at e1
            cases e1
            exact e2
  cases hk : K.lookup a with
  | some o =>
    have e := KX a o hk
    rw [ha] at e
    cases e
    exact core (fun _ => none) (fun _ => .inl rfl) (.inr ⟨_, vs.toArray, _, hk, rfl, rfl, rfl, by rw [List.size_toArray, lv]; exact hl, by simpa using rv⟩) (fun b u z => nomatch (show (none : Option HO) = some u from z)) (fun b z => absurd rfl z) fun z => absurd rfl z
  | none =>
    refine core (fun b => if b = a then some (.frz { cls := .type "list", data := .seq vs.toArray } (.lst (ns.map V.int))) else none) (fun b => ?_) (.inl (.inr ⟨{ cls := .type "list", data := .seq vs.toArray }, if_pos rfl⟩)) (fun b u z => ?_) (fun b z => ?_) fun _ => hk
    · by_cases hb : b = a
      · exact .inr ⟨_, _, if_pos hb⟩
      · exact .inl (if_neg hb)
    · by_cases hb : b = a
      · have z' := (if_pos hb).symm.trans z
        cases z'
        subst hb
        exact ⟨ha, by rw [List.length_map]; exact hl, vs, _, rv, ha⟩
      · have z' := (if_neg hb).symm.trans z
        cases z'
    · by_cases hb : b = a
      · exact hb
      · exact absurd (if_neg hb) z
theorem walk_ofG {l : PySem.W.OpenLaw} {n k : Nat} {q : Program} {loose : List Str} {XP : (Str → Option Value) → Heap → Prop} {YP : World → Heap → Prop} {d : DefRec} {K : Params → PySem.W.Frag} {sp : World → Sp} {x : Str}
    (hn : l.most = some n) (hn2 : n ≤ sizeLine) (hdf : d.params.defaults = []) (hr : Room k callerA)
    (hY : ∀ (w : World) (h : Heap), YP w h → (K w.params).In h)
    (F : ∀ (w : World) (mg : Str → Option Value) (fa : Addr) (h : Heap), (K w.params).In h → h.Ns mainGlobals mg → mg d.name = some (.ref fa) →
      ∃ fd : FuncData, (∀ (s : Shared) (u : Value), BindsTo s fd ⟨[u], []⟩ [(x, u)]) ∧
        ∀ base : Heap, (K w.params).In base → base.Ns mainGlobals mg → FnG l.prog w (K w.params) mg base k fa fd [x] (sp w))
    (hsp : ∀ (w : World) (H : Hp) (a : Addr) (ns : List Int), ns.length ≤ n → Only H → SqL (K w.params) H a (ns.map V.int) → sp w [.ref a] H (fun v _ => v = .bl true) fun _ _ _ => False) :
    PySem.W.WalkO q loose XP YP l.row.toRowW d [] (fun f vs => PySem.call f vs) := by
  refine Att.attach_call hn hdf fun w s₀ s₁ mg mb fa o pm cd doc a vs ns G Y ho hd hcd hmg hobj hints hlen hg => ?_
  have KX := hY w _ Y
  obtain ⟨fd, hb, hF⟩ := F w mg fa _ KX G.T.g hmg
  exact law_callG KX G.T.g G.T.b G.T.builtins G.T.nolimit hg hobj hints (Nat.le_trans hlen hn2) hr hF hb (fun H hO hS => hsp w H a ns hlen hO hS)
/-- repr(x) of data that stands in the heap -/
def rRepr (K : PySem.W.Frag) : List V → Hp → VK → Prop := fun xs H Q => ∃ (a : Addr) (d : PyData), xs = [.ref a] ∧ Dp K H (.ref a) d ∧ d.showable = true ∧ d.hasDict = false ∧ d.depth ≤ 60 ∧ d.shown.length ≤ sizeLine ∧ Q (.str d.shown) H
theorem call_repr {X : Cx} (hg : X.A.guards = some []) (hu : X.A.units + 64 < cLine) : CallR X (.builtin "repr") (rRepr X.K) := by
  intro pins s σ H xs us Q I r h
  obtain ⟨a, d, rfl, hd, hs, hnd, hdp, hsz, q⟩ := h
  cases r with
  | cons r1 rr =>
    cases rr
    obtain ⟨as, rd⟩ := Dp.reads I d _ _ hd r1
    cases (show _ = Value.ref a from r1)
    refine repr_of_reads' rd hs (fun z => by rw [hnd] at z; cases z) hg (by omega) (fun b o e => e) (fun h' u tk hk => ?_) hsz
    exact ⟨.str d.shown, H, I.kept (t' := tk) hk, ⟨_, rfl⟩, q⟩
end My

set_option Elab.async false
set_option maxRecDepth 100000
set_option maxHeartbeats 4000000
set_option linter.all false
/-! Any data, dicts of texts and ints among them: isinstance, repr. -/
namespace My
open PySem PySem.Spec PyProof.Rows L2
def dkV (kvs : List (Str × Int)) : List (Key × V) := kvs.map fun p => (Sum.inr p.1, V.int p.2)
def dkD (kvs : List (Str × Int)) : List (PyData × PyData) := kvs.map fun p => (.str p.1, .int p.2)
mutual
inductive Ax (m : Addr) (H : Hp) : V → PyData → Prop
  | non : Ax m H .non .none
  | bl (b : Bool) : Ax m H (.bl b) (.bool b)
  | int (i : Int) : Ax m H (.int i) (.int i)
  | str (x : Str) : Ax m H (.str x) (.str x)
  | lst {a : Addr} {xs : List V} {ds : List PyData} : a ≠ m → H a = some (.lst xs) → AxAll m H xs ds → Ax m H (.ref a) (.list ds)
  | tup {a : Addr} {xs : List V} {ds : List PyData} : a ≠ m → H a = some (.tup xs) → AxAll m H xs ds → Ax m H (.ref a) (.tuple ds)
  | dic {a : Addr} {kvs : List (Str × Int)} : a ≠ m → H a = some (.dK (dkV kvs)) → Ax m H (.ref a) (.dict (dkD kvs))
inductive AxAll (m : Addr) (H : Hp) : List V → List PyData → Prop
  | nil : AxAll m H [] []
  | cons {v : V} {vs : List V} {d : PyData} {ds : List PyData} : Ax m H v d → AxAll m H vs ds → AxAll m H (v :: vs) (d :: ds)
end
mutual
theorem Ax.mono {m : Addr} {H H' : Hp} (b : But m H H') : ∀ {v : V} {d : PyData}, Ax m H v d → Ax m H' v d
  | _, _, .non => .non
  | _, _, .bl k => .bl k
  | _, _, .int i => .int i
  | _, _, .str x => .str x
  | _, _, .lst n h q => .lst n (b _ _ h n) (AxAll.mono b q)
  | _, _, .tup n h q => .tup n (b _ _ h n) (AxAll.mono b q)
  | _, _, .dic n h => .dic n (b _ _ h n)
theorem AxAll.mono {m : Addr} {H H' : Hp} (b : But m H H') : ∀ {vs : List V} {ds : List PyData}, AxAll m H vs ds → AxAll m H' vs ds
  | _, _, .nil => .nil
  | _, _, .cons h q => .cons (Ax.mono b h) (AxAll.mono b q)
end
mutual
theorem At.ax {m : Addr} {H : Hp} : ∀ {v : V} {d : PyData}, At m H v d → Ax m H v d
  | _, _, .non => .non
  | _, _, .bl k => .bl k
  | _, _, .int i => .int i
  | _, _, .str x => .str x
  | _, _, .lst n h q => .lst n h (AtAll.ax q)
  | _, _, .tup n h q => .tup n h (AtAll.ax q)
theorem AtAll.ax {m : Addr} {H : Hp} : ∀ {vs : List V} {ds : List PyData}, AtAll m H vs ds → AxAll m H vs ds
  | _, _, .nil => .nil
  | _, _, .cons h q => .cons (At.ax h) (AtAll.ax q)
end
theorem AxAll.length {m : Addr} {H : Hp} : ∀ {vs : List V} {ds : List PyData}, AxAll m H vs ds → vs.length = ds.length
  | _, _, .nil => rfl
  | _, _, .cons _ q => by rw [List.length_cons, List.length_cons, AxAll.length q]
theorem AxAll.get {m : Addr} {H : Hp} : ∀ {vs : List V} {ds : List PyData} {i : Nat} {v : V}, AxAll m H vs ds → vs[i]? = some v → ∃ d, ds[i]? = some d ∧ Ax m H v d
  | _, _, _, _, .nil, e => by simp at e
  | _, _, 0, _, .cons h _, e => by
    simp at e
    subst e
    exact ⟨_, rfl, h⟩
  | _, _, i + 1, v, .cons _ q, e => by
    obtain ⟨d, h1, h2⟩ := AxAll.get (i := i) (v := v) q (by simpa using e)
    exact ⟨d, by simpa using h1, h2⟩
theorem AxAll.append {m : Addr} {H : Hp} : ∀ {vs us : List V} {ds es : List PyData}, AxAll m H vs ds → AxAll m H us es → AxAll m H (vs ++ us) (ds ++ es)
  | _, _, _, _, .nil, h => h
  | _, _, _, _, .cons h q, e => .cons h (AxAll.append q e)
theorem AxAll.take {m : Addr} {H : Hp} : ∀ {vs : List V} {ds : List PyData} (n : Nat), AxAll m H vs ds → AxAll m H (vs.take n) (ds.take n)
  | _, _, 0, _ => .nil
  | _, _, _ + 1, .nil => .nil
  | _, _, n + 1, .cons h q => .cons h (AxAll.take n q)
theorem AxAll.drop {m : Addr} {H : Hp} : ∀ {vs : List V} {ds : List PyData} (n : Nat), AxAll m H vs ds → AxAll m H (vs.drop n) (ds.drop n)
  | _, _, 0, q => q
  | _, _, _ + 1, .nil => .nil
  | _, _, n + 1, .cons h q => AxAll.drop n q
theorem AxAll.rev {m : Addr} {H : Hp} : ∀ {vs : List V} {ds : List PyData}, AxAll m H vs ds → AxAll m H vs.reverse ds.reverse
  | _, _, .nil => .nil
  | _, _, .cons h q => by
    rw [List.reverse_cons, List.reverse_cons]
    exact (AxAll.rev q).append (.cons h .nil)
theorem Ax.ty {K : PySem.W.Frag} {m : Addr} {H : Hp} {v : V} {d : PyData} (h : Ax m H v d) : TyX K H v (.type (tyS d)) := by
  cases h with
  | non => exact .base .non
  | bl b => exact .base (.bl b)
  | int i => exact .base (.int i)
  | str x => exact .base (.str x)
  | lst n e q => exact .base (.lst e)
  | tup n e q => exact .base (.tup e)
  | dic n e => exact .base (.dK e)
theorem k_dict_lt : kitAnyB "dict" ["list", "tuple"] = some false := by decide +kernel
theorem k_dict_list : kitB "dict" "list" = some false := by decide +kernel
theorem k_dict_str : kitB "dict" "str" = some false := by decide +kernel
def isLT : PyData → Bool
  | .list _ => true
  | .tuple _ => true
  | _ => false
theorem k_lt (d : PyData) : kitAnyB (tyS d) ["list", "tuple"] = some (isLT d) := by
  cases d
  · exact k_NoneType_lt
  · exact k_bool_lt
  · exact k_int_lt
  · exact k_str_lt
  · exact k_list_lt
  · exact k_tuple_lt
  · exact k_dict_lt
def isStr : PyData → Bool
  | .str _ => true
  | _ => false
theorem k_str (d : PyData) : kitB (tyS d) "str" = some (isStr d) := by
  cases d
  · exact k_NoneType_str
  · exact k_bool_str
  · exact k_int_str
  · exact k_str_str
  · exact k_list_str
  · exact k_tuple_str
  · exact k_dict_str
def isLs : PyData → Bool
  | .list _ => true
  | _ => false
theorem k_ls (d : PyData) : kitB (tyS d) "list" = some (isLs d) := by
  cases d
  · exact k_NoneType_list
  · exact k_bool_list
  · exact k_int_list
  · exact k_str_list
  · exact k_list_list
  · exact k_tuple_list
  · exact k_dict_list
theorem ax_isiT {K : PySem.W.Frag} {m tp : Addr} {H : Hp} {v : V} {d : PyData} {Q : VK} (h : Ax m H v d) (ht : H tp = some (.tup [.ty "list", .ty "tuple"])) (q : Q (.bl (isLT d)) H) : rIsiT K [v, .ref tp] H Q :=
  ⟨_, _, _, _, _, _, rfl, ht, cls_all ["list", "tuple"], h.ty, kit_any (k_lt d), q⟩
theorem ax_isi {K : PySem.W.Frag} {m : Addr} {H : Hp} {v : V} {d : PyData} {Q : VK} (h : Ax m H v d) (q : Q (.bl (isStr d)) H) : rIsi K [v, .ty "str"] H Q :=
  ⟨_, _, _, _, _, rfl, .ty "str", h.ty, kit_ty (k_str d), q⟩
theorem ax_isl {K : PySem.W.Frag} {m : Addr} {H : Hp} {v : V} {d : PyData} {Q : VK} (h : Ax m H v d) (q : Q (.bl (isLs d)) H) : rIsi K [v, .ty "list"] H Q :=
  ⟨_, _, _, _, _, rfl, .ty "list", h.ty, kit_ty (k_ls d), q⟩
/-! repr -/
theorem dict_pairs {P : Program} {w : World} : ∀ {kvs : List (Str × Int)} {es : List DictEntry} {vs : List (Key × Value)}, KV (dkV kvs) vs → Pairs (mixKind P w) es vs → ∀ h : Heap, ReadsAll h (es.map (·.key)) ((dkD kvs).map (·.1)) [] ∧ ReadsAll h (es.map (·.val)) ((dkD kvs).map (·.2)) []
  | [], _, _, .nil, .nil, _ => ⟨.nil, .nil⟩
  | (x, i) :: r, _, _, .cons ⟨e1, e2⟩ q, .cons h1 h2 p, h => by
    obtain ⟨a, b⟩ := dict_pairs q p h
    rw [← e1] at h1
    rw [← h2] at e2
    obtain ⟨t, e3⟩ := (show ∃ t, _ = Value.int i t from e2)
    rcases keyIs_shape (show keyIs (Sum.inr x) _ = true from h1) with ⟨j, t2, z, _⟩ | ⟨y, t2, z, e4⟩
    · cases z
    · cases z
      refine ⟨?_, ?_⟩
      · simp only [dkD, List.map_cons]
        rw [e4]
        exact .cons (as := []) (.str x t2) a
      · simp only [dkD, List.map_cons]
        rw [e3]
        exact .cons (as := []) (.int i t) b
theorem dkD_flat (kvs : List (Str × Int)) : PyData.hasDictAll ((dkD kvs).map (·.1)) = false ∧ PyData.hasDictAll ((dkD kvs).map (·.2)) = false := by
  induction kvs with
  | nil => exact ⟨rfl, rfl⟩
  | cons p r ih =>
    refine ⟨?_, ?_⟩
    · show (PyData.hasDict (.str p.1) || PyData.hasDictAll ((dkD r).map (·.1))) = false
      rw [ih.1]
      rfl
    · show (PyData.hasDict (.int p.2) || PyData.hasDictAll ((dkD r).map (·.2))) = false
      rw [ih.2]
      rfl
/-- what repr needs of an object: how it reads, what its text is -/
structure RepD (P : Program) (w : World) (h : Heap) (u : Value) (d : PyData) : Prop where
  rd : ∃ as, Reads h u d as
  rp : ∃ bs, ReadAtMost h d.depth bs ∧ ReprK P w bs h d.depth u d.shown
section
variable {X : Cx} {pins : List (Addr × Obj)} {σ : L2.St} {H : Hp} {s : Shared} {m : Addr}
theorem rep_dict (I : Inv X pins σ H s) {a : Addr} {kvs : List (Str × Int)} (e : H a = some (.dK (dkV kvs))) (hs : (PyData.dict (dkD kvs)).showable = true) (hz : (PyData.dict (dkD kvs)).shown.length ≤ sizeLine) :
    ∃ (o : Obj) (es : Array DictEntry) (n : Nat), s.heap.get? a = some o ∧ o.cls = .type "dict" ∧ o.data = .dict es n ∧ (a == sysModules) = false ∧ (∃ as, Reads s.heap (.ref a) (.dict (dkD kvs)) as) ∧
      ∃ bs, ReadAtMost s.heap (PyData.depthKv (dkD kvs)) bs ∧ a ∉ bs ∧ ReprEntriesK X.prog X.w bs s.heap (PyData.depthKv (dkD kvs)) es.toList (List.zipWith (fun k v : Str => k ++ ": " ++ v) (PyData.shownAll ((dkD kvs).map (·.1))) (PyData.shownAll ((dkD kvs).map (·.2)))) := by
  obtain ⟨_, hsys, vs, rel, o, es, n, ho, hx, hd, _, hp, _⟩ := dk_of I.hok e
  obtain ⟨r1, r2⟩ := dict_pairs rel hp s.heap
  obtain ⟨f1, f2⟩ := dkD_flat kvs
  obtain ⟨z1, z2⟩ := PyData.showableKv_split (dkD kvs) (by simpa only [PyData.showable] using hs)
  have hz2 : (dictText (PyData.shownKv (dkD kvs))).length ≤ sizeLine := by simpa only [PyData.shown] using hz
  have rr := Reads.dict ho hx.1 hd r1 r2
  obtain ⟨b1, c1, k1⟩ := ReprAllK.of_readsAll (prog := X.prog) (w := X.w) r1 z1 (fun q => by rw [f1] at q; cases q) fun t ht => by
    obtain ⟨p, hp, hl⟩ := PyData.shownKv_key_le (dkD kvs) t ht
    exact Nat.le_trans hl (Nat.le_trans (dictText_mem_le hp) hz2)
  obtain ⟨b2, c2, k2⟩ := ReprAllK.of_readsAll (prog := X.prog) (w := X.w) r2 z2 (fun q => by rw [f2] at q; cases q) fun t ht => by
    obtain ⟨p, hp, hl⟩ := PyData.shownKv_val_le (dkD kvs) t ht
    exact Nat.le_trans hl (Nat.le_trans (dictText_mem_le hp) hz2)
  have hb : ReadAtMost s.heap (PyData.depthKv (dkD kvs)) (b1 ++ b2) := (c1.mono (PyData.depthAll_keys_le _)).append (c2.mono (PyData.depthAll_vals_le _))
  refine ⟨o, es, n, ho, hx.1, hd, hsys, ⟨_, rr⟩, b1 ++ b2, hb, not_mem_of_deeper rr (by simp only [PyData.depth]; omega) hb, ?_⟩
  exact .of_two es.toList _ _ (k1.more_le (fun b q => List.mem_append_left _ q) (PyData.depthAll_keys_le _)) (k2.more_le (fun b q => List.mem_append_right _ q) (PyData.depthAll_vals_le _))
mutual
theorem Ax.rep (I : Inv X pins σ H s) : ∀ {v : V} {d : PyData} {u : Value}, Ax m H v d → RelV v u → d.showable = true → d.shown.length ≤ sizeLine → RepD X.prog X.w s.heap u d
  | _, _, _, .non, r, _, _ => by
    cases r
    exact ⟨⟨_, .none⟩, [], (fun _ h => nomatch h), by simp only [PyData.shown]; exact .of_is ReprIs.none _ _ _⟩
  | _, _, _, .bl b, r, _, _ => by
    cases r
    exact ⟨⟨_, .bool b⟩, [], (fun _ h => nomatch h), by simp only [PyData.shown]; exact .of_is (ReprIs.bool b) _ _ _⟩
  | _, _, _, .int i, r, hs, _ => by
    obtain ⟨t, rfl⟩ := r
    exact ⟨⟨_, .int i t⟩, [], (fun _ h => nomatch h), by simp only [PyData.shown]; exact .of_is (ReprIs.int t (by simpa [PyData.showable] using hs)) _ _ _⟩
  | _, _, _, .str x, r, _, hz => by
    obtain ⟨t, rfl⟩ := r
    exact ⟨⟨_, .str x t⟩, [], (fun _ h => nomatch h), by simp only [PyData.shown]; exact .of_is (ReprIs.str x t (by simpa only [PyData.shown] using hz)) _ _ _⟩
  | _, _, _, .lst (xs := xs) (ds := ds) nm e q, r, hs, hz => by
    cases r
    have hz2 : (listText (PyData.shownAll ds)).length ≤ sizeLine := by simpa only [PyData.shown] using hz
    obtain ⟨its, rv, ⟨o, n, ho, hc, _, hd⟩, _⟩ := I.list (SqL.of e)
    obtain ⟨⟨as, ra⟩, bs, hb, hk⟩ := AxAll.rep I q rv (by simpa only [PyData.showable] using hs) fun t ht => Nat.le_trans (listText_mem_le ht) hz2
    have rr := Reads.list ho hc hd ra
    have na := not_mem_of_deeper rr (by simp only [PyData.depth]; omega) hb
    refine ⟨⟨_, rr⟩, _, ReadAtMost.cons rr (by simp only [PyData.depth]; omega) hb, ?_⟩
    simp only [PyData.depth, PyData.shown]
    cases its with
    | nil =>
      cases ra
      exact ReprK.listEmpty ho hc hd
    | cons x l => exact ReprK.list ho hc hd na (by simpa using hk.length_eq) fun i y ey => hk.item i y (by simpa using ey)
  | _, _, _, .tup (xs := xs) (ds := ds) nm e q, r, hs, hz => by
    cases r
    have hz2 : (tupleText (PyData.shownAll ds)).length ≤ sizeLine := by simpa only [PyData.shown] using hz
    obtain ⟨its, rv, ⟨o, ho, hc, n, hd⟩, _⟩ := I.tuple (SqT.of e)
    obtain ⟨⟨as, ra⟩, bs, hb, hk⟩ := AxAll.rep I q rv (by simpa only [PyData.showable] using hs) fun t ht => Nat.le_trans (tupleText_mem_le ht) hz2
    have rr := Reads.tuple ho hc hd ra
    have na := not_mem_of_deeper rr (by simp only [PyData.depth]; omega) hb
    refine ⟨⟨_, rr⟩, _, ReadAtMost.cons rr (by simp only [PyData.depth]; omega) hb, ?_⟩
    simp only [PyData.depth, PyData.shown]
    exact ReprK.tuple ho hc hd na hk
  | _, _, _, .dic (kvs := kvs) nm e, r, hs, hz => by
    cases r
    obtain ⟨o, es, n, ho, hc, hd, hsys, ⟨as, rr⟩, bs, hb, na, hE⟩ := rep_dict I e hs hz
    refine ⟨⟨_, rr⟩, _, ReadAtMost.cons rr (by simp only [PyData.depth]; omega) hb, ?_⟩
    simp only [PyData.depth, PyData.shown, PyData.shownKv_eq]
    exact ReprK.dict ho hc hd hsys na hE
theorem AxAll.rep (I : Inv X pins σ H s) : ∀ {vs : List V} {ds : List PyData} {us : List Value}, AxAll m H vs ds → Vals vs us → PyData.showableAll ds = true → (∀ t ∈ PyData.shownAll ds, t.length ≤ sizeLine) →
    (∃ as, ReadsAll s.heap us ds as) ∧ ∃ bs, ReadAtMost s.heap (PyData.depthAll ds) bs ∧ ReprAllK X.prog X.w bs s.heap (PyData.depthAll ds) us (PyData.shownAll ds)
  | _, _, _, .nil, r, _, _ => by
    cases r
    exact ⟨⟨_, .nil⟩, [], (fun _ h => nomatch h), by simp only [PyData.shownAll]; exact .nil⟩
  | _, _, _, .cons (d := d) (ds := ds) h q, r, hs, hz => by
    cases r with
    | cons r1 r2 =>
      obtain ⟨s1, s2⟩ := (show d.showable = true ∧ PyData.showableAll ds = true by simpa only [PyData.showableAll, Bool.and_eq_true] using hs)
      obtain ⟨⟨as, ra⟩, b1, c1, k1⟩ := Ax.rep I h r1 s1 (hz _ (by simp only [PyData.shownAll]; exact List.mem_cons_self ..))
      obtain ⟨⟨as2, ra2⟩, b2, c2, k2⟩ := AxAll.rep I q r2 s2 fun t ht => hz t (by simp only [PyData.shownAll]; exact List.mem_cons_of_mem _ ht)
      refine ⟨⟨_, .cons ra ra2⟩, b1 ++ b2, ?_, ?_⟩
      · simp only [PyData.depthAll]
        exact (c1.mono (Nat.le_max_left _ _)).append (c2.mono (Nat.le_max_right _ _))
      · simp only [PyData.depthAll, PyData.shownAll]
        exact .cons ((k1.more fun b q => List.mem_append_left _ q).level_le (Nat.le_max_left _ _)) (k2.more_le (fun b q => List.mem_append_right _ q) (Nat.le_max_right _ _))
end
end
/-- repr(x) of any data -/
def rReprX (K : PySem.W.Frag) : List V → Hp → VK → Prop := fun xs H Q => ∃ (m : Addr) (v : V) (d : PyData), xs = [v] ∧ Ax m H v d ∧ d.showable = true ∧ d.depth ≤ 60 ∧ d.shown.length ≤ sizeLine ∧ Q (.str d.shown) H
theorem call_reprX {X : Cx} (hg : X.A.guards = some []) (hu : X.A.units + 64 < cLine) : CallR X (.builtin "repr") (rReprX X.K) := by
  intro pins s σ H xs us Q I r h
  obtain ⟨m, v, d, rfl, hd, hs, hdp, hsz, q⟩ := h
  obtain ⟨u, rfl, ru⟩ := vals1 r
  have fin : ∀ {h' : Heap} {tk t : Nat}, (∀ b o, s.heap.get? b = some o → h'.get? b = some o) → ∃ v H1, Inv X pins σ H1 { s with heap := h', toks := tk } ∧ RelV v (.str d.shown t) ∧ Q v H1 := fun {h' tk t} hk => ⟨.str d.shown, H, I.kept (t' := tk) hk, ⟨_, rfl⟩, q⟩
  cases hd with
  | non =>
    cases ru
    simp only [PyData.shown] at fin
    exact PySem.P.repr_of_none (fin fun _ _ e => e)
  | bl b =>
    cases ru
    simp only [PyData.shown] at fin
    exact PySem.P.repr_of_bool (fin fun _ _ e => e)
  | int i =>
    obtain ⟨t, rfl⟩ := ru
    simp only [PyData.shown] at fin
    exact PySem.P.repr_of_int (by simpa [PyData.showable] using hs) (fin fun _ _ e => e)
  | str x =>
    obtain ⟨t, rfl⟩ := ru
    simp only [PyData.shown] at fin hsz
    exact PySem.P.repr_of_str (fin fun _ _ e => e) hsz
  | @lst a ys ds nm e qa =>
    cases ru
    have hz2 : (listText (PyData.shownAll ds)).length ≤ sizeLine := by simpa only [PyData.shown] using hsz
    obtain ⟨its, rv, ⟨o, n, ho, hc, _, hd⟩, _⟩ := I.list (SqL.of e)
    obtain ⟨⟨as, ra⟩, bs, hb, hk⟩ := AxAll.rep I qa rv (by simpa only [PyData.showable] using hs) fun t ht => Nat.le_trans (listText_mem_le ht) hz2
    have rr := Reads.list ho hc hd ra
    have na := not_mem_of_deeper rr (by simp only [PyData.depth]; omega) hb
    simp only [PyData.depth] at hdp
    simp only [PyData.shown] at fin
    refine call_repr_slot (by omega) ⟨o, ho, hc⟩ PySem.F.slot_list_repr.toG ?_
    cases its with
    | nil =>
      cases ra
      exact call_list_repr_empty ⟨o, ho, hc⟩ ho hd ⟨_, _, rfl, fin fun _ _ e => e⟩
    | cons x l =>
      exact call_list_reprK ho hc hd na (by simpa using hk.length_eq) (fun i y ey => hk.item i y (by simpa using ey)) (show X.A.in1.guards = some [] from hg) (fun b _ => Clear.nil b) (by show X.A.units + 1 + (PyData.depthAll ds + 1) < cLine; omega) (fun _ _ e => e) (fun h' u tk hk' => ⟨_, _, rfl, fin hk'⟩) hz2
  | @tup a ys ds nm e qa =>
    cases ru
    have hz2 : (tupleText (PyData.shownAll ds)).length ≤ sizeLine := by simpa only [PyData.shown] using hsz
    obtain ⟨its, rv, ⟨o, ho, hc, n, hd⟩, _⟩ := I.tuple (SqT.of e)
    obtain ⟨⟨as, ra⟩, bs, hb, hk⟩ := AxAll.rep I qa rv (by simpa only [PyData.showable] using hs) fun t ht => Nat.le_trans (tupleText_mem_le ht) hz2
    have rr := Reads.tuple ho hc hd ra
    have na := not_mem_of_deeper rr (by simp only [PyData.depth]; omega) hb
    simp only [PyData.depth] at hdp
    simp only [PyData.shown] at fin
    refine call_repr_slot (by omega) ⟨o, ho, hc⟩ PySem.F.slot_tuple_repr ?_
    exact call_tuple_reprK ho hc hd na hk (show X.A.in1.guards = some [] from hg) (fun b _ => Clear.nil b) (by show X.A.units + 1 + (PyData.depthAll ds + 1) < cLine; omega) (fun _ _ e => e) (fun h' u tk hk' => ⟨_, _, rfl, fin hk'⟩) hz2
  | @dic a kvs nm e =>
    cases ru
    obtain ⟨o, es, n, ho, hc, hd, hsys, _, bs, hb, na, hE⟩ := rep_dict I e hs hsz
    simp only [PyData.depth] at hdp
    simp only [PyData.shown, PyData.shownKv_eq] at fin hsz
    refine call_repr_slot (by omega) ⟨o, ho, hc⟩ PySem.F.slot_dict_repr ?_
    exact call_dict_reprK ho hc hd hsys na hE (show X.A.in1.guards = some [] from hg) (fun b _ => Clear.nil b) (by show X.A.units + 1 + (PyData.depthKv (dkD kvs) + 1) < cLine; omega) (fun _ _ e => e) (fun h' u tk hk' => ⟨_, _, rfl, fin hk'⟩) hsz
/-! a list or a tuple, whichever it is -/
section
variable {X : Cx}
theorem op_or {op : Value → Value → Sem Value} {r1 r2 : R2} (h1 : OpR X op r1) (h2 : OpR X op r2) : OpR X op (fun x y H Q => r1 x y H Q ∨ r2 x y H Q) := by
  intro pins s σ H x y v u Q I rx ry h
  rcases h with h | h
  · exact h1 pins s σ H x y v u Q I rx ry h
  · exact h2 pins s σ H x y v u Q I rx ry h
theorem sl_or {r1 r2 : V → Option Int → Option Int → Hp → VK → Prop} (h1 : SlR X r1) (h2 : SlR X r2) : SlR X (fun x lo hi H Q => r1 x lo hi H Q ∨ r2 x lo hi H Q) := by
  intro pins s σ H x v vl vu lo hi sl Q I rx hs pl pu h
  rcases h with h | h
  · exact h1 pins s σ H x v vl vu lo hi sl Q I rx hs pl pu h
  · exact h2 pins s σ H x v vl vu lo hi sl Q I rx hs pl pu h
end
end My

set_option Elab.async false
set_option maxRecDepth 100000
set_option maxHeartbeats 4000000
set_option linter.all false
namespace C81
open PySem L2 My M78
abbrev sIsO : Stmt := top 28
abbrev nIsO : List Str := ["scripts", "order", "state", "k", "at", "refused"]
theorem scIsO : FnScope nIsO ["scripts", "order"] (defScope sIsO) := ⟨rfl, rfl, rfl, by decide +kernel, rfl, by decide +kernel, by decide +kernel⟩
abbrev sIsS : Stmt := top 29
abbrev nIsS : List Str := ["scripts", "order", "state", "at"]
theorem scIsS : FnScope nIsS ["scripts", "order"] (defScope sIsS) := ⟨rfl, rfl, rfl, by decide +kernel, rfl, by decide +kernel, by decide +kernel⟩

/-! a list or a tuple with its numbers -/
section
variable {X : Cx} {e : Expr} {ta : TA} {p pos tpos : Pos} {elts : List Expr} {kk : Nat}
def iEnSq (K : PySem.W.Frag) (ta : TA) : TI := fun σ H R => iEnum K ta σ H R ∨ iEnumT K ta σ H R
theorem pi_enSq (hg : Gl X "enumerate") (hm : X.mg "enumerate" = none) (ha : PA X [e] ta) (hs : starEach [e] X.env = [(false, eval e X.env)] := by rfl) : PI X (.Tuple elts kk tpos) (.Call (.Name "enumerate" p) [e] [] pos) (iEnSq X.K ta) :=
  pi_or (pi_enum hg hm ha hs) (pi_enumT hg hm ha hs)
theorem ienq {K : PySem.W.Frag} {σ : L2.St} {H : Hp} {R : It → Hp → Prop} {a : Addr} {us : List V} (ht : ∀ Q : List V → Hp → Prop, Q [.ref a] H → ta σ H Q) (h : Sq H a us)
    (k : ∀ (J : It) (G : Hp → Prop), Walk J us.length G (YPair (fun i => some (.int (i : Nat))) (fun i => us[i]?)) → (∀ H', (∀ o, H a = some o → H' a = some o) → G H') → R J H) : iEnSq K ta σ H R := by
  rcases h with h | h
  · exact .inl (ht _ ⟨a, us, rfl, SqL.of h, k _ (fun H' => SqL K H' a us) walk_enum (fun H' q => SqL.of (q _ h))⟩)
  · exact .inr (ht _ ⟨a, us, rfl, SqT.of h, k _ (fun H' => SqT K H' a us) walk_enumT (fun H' q => SqT.of (q _ h))⟩)
end
/-! the law's look at an order -/
def numD : PyData → Option Nat
  | .int i => if 0 ≤ i then some i.toNat else none
  | _ => none
theorem numD_some {d : PyData} {k : Nat} (h : numD d = some k) : d = .int (k : Int) := by
  cases d with
  | int i =>
    have h : (if 0 ≤ i then some i.toNat else none) = some k := h
    by_cases h0 : 0 ≤ i
    · rw [if_pos h0] at h
      cases h
      rw [Int.toNat_of_nonneg h0]
    · rw [if_neg h0] at h
      cases h
  | _ => cases h
theorem numD_nat (k : Nat) : numD (.int (k : Int)) = some k := by
  show (if (0 : Int) ≤ (k : Int) then some ((k : Int).toNat) else none) = some k
  rw [if_pos (Int.natCast_nonneg k), Int.toNat_natCast]
def stepO (ss : List (List Wd)) (xs : List Row) (d : PyData) : Option (List Row × Bool) := (numD d).bind fun k => if k ∈ wt ss xs then some (nx ss xs k) else none
def wkS (ss : List (List Wd)) (a : Option (List Row × List Bool)) (d : PyData) : Option (List Row × List Bool) := a.bind fun p => (stepO ss p.1 d).map fun q => (q.1, p.2 ++ [q.2])
/-- where these lead, and what was refused on the way -/
def wk (ss : List (List Wd)) (ds : List PyData) : Option (List Row × List Bool) := ds.foldl (wkS ss) (some (s0 ss, []))
theorem wk_snoc (ss : List (List Wd)) (ds : List PyData) (d : PyData) : wk ss (ds ++ [d]) = wkS ss (wk ss ds) d := by
  unfold wk
  rw [List.foldl_append]
  rfl
theorem wk_off {ss : List (List Wd)} : ∀ r : List PyData, r.foldl (wkS ss) none = none
  | [] => rfl
  | d :: r => wk_off r
theorem wk_none {ss : List (List Wd)} {l : List PyData} (r : List PyData) (h : wk ss l = none) : wk ss (l ++ r) = none := by
  unfold wk at h ⊢
  rw [List.foldl_append, h]
  exact wk_off r
theorem wkS_some {ss : List (List Wd)} {a : Option (List Row × List Bool)} {d : PyData} {p : List Row × List Bool} (h : wkS ss a d = some p) : ∃ q k, a = some q ∧ d = .int ((k : Nat) : Int) ∧ k ∈ wt ss q.1 ∧ p = ((nx ss q.1 k).1, q.2 ++ [(nx ss q.1 k).2]) := by
  obtain ⟨q, rfl, h⟩ := Option.bind_eq_some_iff.mp h
  obtain ⟨z, hz, rfl⟩ := Option.map_eq_some_iff.mp h
  obtain ⟨k, hk, hz⟩ := Option.bind_eq_some_iff.mp hz
  by_cases hw : k ∈ wt ss q.1
  · rw [if_pos hw] at hz
    cases hz
    exact ⟨q, k, rfl, numD_some hk, hw, rfl⟩
  · rw [if_neg hw] at hz
    cases hz
theorem wkS_go {ss : List (List Wd)} {xs : List Row} {rs : List Bool} {k : Nat} (hw : k ∈ wt ss xs) : wkS ss (some (xs, rs)) (.int (k : Int)) = some ((nx ss xs k).1, rs ++ [(nx ss xs k).2]) := by
  unfold wkS stepO
  rw [numD_nat]
  show Option.map _ (if k ∈ wt ss xs then _ else _) = _
  rw [if_pos hw]
  rfl
theorem wk_foldl {ss : List (List Wd)} (ok : ∀ sc ∈ ss, okScr sc) : ∀ (r : List PyData) (q p : List Row × List Bool), SI ss q.1 → r.foldl (wkS ss) (some q) = some p → SI ss p.1 ∧ ∃ t, p.2 = q.2 ++ t ∧ t.length = r.length
  | [], q, p, si, h => by
    cases h
    exact ⟨si, [], by rw [List.append_nil], rfl⟩
  | d :: r, q, p, si, h => by
    have h : r.foldl (wkS ss) (wkS ss (some q) d) = some p := h
    cases hq : wkS ss (some q) d with
    | none =>
      rw [hq, wk_off] at h
      cases h
    | some z =>
      rw [hq] at h
      obtain ⟨_, k, e, rfl, hk, rfl⟩ := wkS_some hq
      cases e
      obtain ⟨_, _, _, _, _, _, _, _, _, si2, _⟩ := wt_nx ok si hk
      obtain ⟨s, t, e, l⟩ := wk_foldl ok r _ p si2 h
      refine ⟨s, (nx ss q.1 k).2 :: t, ?_, by rw [List.length_cons, List.length_cons, l]⟩
      rw [e]
      show q.2 ++ [_] ++ t = _
      rw [List.append_assoc]
      rfl
theorem wk_si {ss : List (List Wd)} (ok : ∀ sc ∈ ss, okScr sc) {ds : List PyData} {p : List Row × List Bool} (h : wk ss ds = some p) : SI ss p.1 ∧ p.2.length = ds.length := by
  obtain ⟨s, t, e, l⟩ := wk_foldl ok ds _ p (SI.zero ss) h
  exact ⟨s, by rw [e, List.nil_append, l]⟩
/-- the parts before -/
theorem wk_pre {ss : List (List Wd)} (ok : ∀ sc ∈ ss, okScr sc) {l r : List PyData} {p : List Row × List Bool} (h : wk ss (l ++ r) = some p) : ∃ q, wk ss l = some q ∧ ∃ t, p.2 = q.2 ++ t := by
  cases hl : wk ss l with
  | none =>
    rw [wk_none r hl] at h
    cases h
  | some q =>
    unfold wk at h hl
    rw [List.foldl_append, hl] at h
    obtain ⟨_, t, e, _⟩ := wk_foldl ok r q p (wk_si ok (by unfold wk; exact hl)).1 h
    exact ⟨q, rfl, t, e⟩
def ordF (rs : List Bool) : Bool := decide (rs.drop (rs.length - 1) = [true]) && !(rs.take (rs.length - 1)).contains true
def ord1 (ss : List (List Wd)) (ds : List PyData) : Bool := match wk ss ds with
  | some p => ordF p.2
  | none => false
/-- an order whose last step is the first that is refused -/
def isOrd (ss : List (List Wd)) : PyData → Bool
  | .list ds => ord1 ss ds
  | .tuple ds => ord1 ss ds
  | _ => false
def stk1 (ss : List (List Wd)) (ds : List PyData) : Bool := match wk ss ds with
  | some p => stk ss p.1
  | none => false
/-- an order to where nobody can go on -/
def isStu (ss : List (List Wd)) : PyData → Bool
  | .list ds => stk1 ss ds
  | .tuple ds => stk1 ss ds
  | _ => false
theorem isLT_sq {d : PyData} (h : isLT d = true) : ∃ ds, Sq2 d ds := by
  cases d <;> first | exact ⟨_, .inl rfl⟩ | exact ⟨_, .inr rfl⟩ | cases h
theorem sq_isLT {d : PyData} {ds : List PyData} (s : Sq2 d ds) : isLT d = true := by rcases s with rfl | rfl <;> rfl
theorem isOrd_no {ss : List (List Wd)} {d : PyData} (h : isLT d = false) : isOrd ss d = false := by
  cases d <;> first | rfl | cases h
theorem isOrd_sq {ss : List (List Wd)} {d : PyData} {ds : List PyData} (s : Sq2 d ds) : isOrd ss d = ord1 ss ds := by rcases s with rfl | rfl <;> rfl
theorem isStu_no {ss : List (List Wd)} {d : PyData} (h : isLT d = false) : isStu ss d = false := by
  cases d <;> first | rfl | cases h
theorem isStu_sq {ss : List (List Wd)} {d : PyData} {ds : List PyData} (s : Sq2 d ds) : isStu ss d = stk1 ss ds := by rcases s with rfl | rfl <;> rfl
theorem ax_sq {m : Addr} {H : Hp} {x : V} {d : PyData} {ds : List PyData} (h : Ax m H x d) (s : Sq2 d ds) : ∃ a us, x = .ref a ∧ a ≠ m ∧ Sq H a us ∧ AxAll m H us ds := by
  rcases s with rfl | rfl
  · cases h with
    | lst n e q => exact ⟨_, _, rfl, n, .inl e, q⟩
  · cases h with
    | tup n e q => exact ⟨_, _, rfl, n, .inr e, q⟩
def flgs (n j : Nat) : List Bool := (List.replicate n false ++ [true]).take j
theorem flgs_snoc {n j : Nat} (h : j ≤ n) : flgs n (j + 1) = flgs n j ++ [decide (j = n)] := by
  unfold flgs
  refine take_succ' ?_
  by_cases e : j = n
  · subst e
    rw [List.getElem?_append_right (by rw [List.length_replicate]; exact Nat.le_refl _), List.length_replicate, Nat.sub_self, decide_eq_true rfl]
    rfl
  · rw [List.getElem?_append_left (by rw [List.length_replicate]; omega), List.getElem?_replicate, if_pos (by omega), decide_eq_false e]
theorem ordF_flgs (n : Nat) : ordF (flgs n (n + 1)) = true := by
  unfold ordF flgs
  have l : (List.replicate n false ++ [true]).length = n + 1 := by rw [List.length_append, List.length_replicate]; rfl
  rw [List.take_of_length_le (by rw [l]; exact Nat.le_refl _), l, Nat.add_sub_cancel, List.drop_left' (List.length_replicate ..), List.take_left' (List.length_replicate ..), decide_eq_true rfl, Bool.true_and]
  rw [Bool.not_eq_true', ← Bool.not_eq_true, List.contains_iff_mem, List.mem_replicate]
  rintro ⟨_, e⟩
  cases e
/-- no order: a step that is none -/
theorem ord_none {ss : List (List Wd)} {ds : List PyData} {j : Nat} (h : wk ss (ds.take j) = none) : ord1 ss ds = false ∧ stk1 ss ds = false := by
  have := wk_none (ds.drop j) h
  rw [List.take_append_drop] at this
  unfold ord1 stk1
  rw [this]
  exact ⟨rfl, rfl⟩
/-- no order: refused too early, or not at the end -/
theorem ord_bad {ss : List (List Wd)} (ok : ∀ sc ∈ ss, okScr sc) {ds : List PyData} {n j : Nat} {ys : List Row} {r : Bool} {rs : List Bool} (hn : ds.length = n + 1) (hj : j ≤ n) (h : wk ss (ds.take (j + 1)) = some (ys, rs ++ [r])) (hr : r ≠ decide (j = n)) : ord1 ss ds = false := by
  unfold ord1
  cases hw : wk ss ds with
  | none => rfl
  | some p =>
    have l := (wk_si ok hw).2
    rw [← List.take_append_drop (j + 1) ds] at hw
    obtain ⟨q, hq, t, e⟩ := wk_pre ok hw
    rw [h] at hq
    cases hq
    have lr : rs.length = j := by
      have := (wk_si ok h).2
      rw [List.length_append, List.length_take] at this
      have : rs.length + 1 = min (j + 1) ds.length := this
      omega
    have hpj : p.2[j]? = some r := by
      rw [e, List.append_assoc, List.getElem?_append_right (by omega), lr, Nat.sub_self]
      rfl
    show ordF p.2 = false
    unfold ordF
    have lp : p.2.length - 1 = n := by omega
    rw [lp]
    by_cases e2 : j = n
    · subst e2
      rw [decide_eq_true rfl] at hr
      have : r = false := by cases r <;> first | rfl | exact absurd rfl hr
      subst this
      rw [decide_eq_false]
      · rfl
      · intro z
        have : (p.2.drop j)[0]? = some false := by rw [List.getElem?_drop]; exact hpj
        rw [z] at this
        cases this
    · rw [decide_eq_false e2] at hr
      have : r = true := by cases r <;> first | rfl | exact absurd rfl hr
      subst this
      have : true ∈ p.2.take n := List.mem_of_getElem? (i := j) (by rw [List.getElem?_take, if_pos (by omega)]; exact hpj)
      rw [List.contains_iff_mem.mpr this, Bool.not_true, Bool.and_false]
def numB (n : Int) : PyData → Bool
  | .int i => decide (0 ≤ i ∧ i < n)
  | _ => false
theorem k_dict_int : kitB "dict" "int" = some false := by decide +kernel
theorem num_x {m : Addr} {H : Hp} {v : V} {d : PyData} {n : Int} {Q : VK} {E : XK} (h : Ax m H v d) (q : Q (.bl (numB n d)) H) : spNum [v, .int n] H Q E := by
  cases h with
  | non => exact ⟨_, n, rfl, .inr (.inr ⟨"NoneType", fun K => .base .non, k_NoneType_int, q⟩)⟩
  | bl b => exact ⟨_, n, rfl, .inr (.inl ⟨b, rfl, q⟩)⟩
  | int i => exact ⟨_, n, rfl, .inl ⟨i, rfl, q⟩⟩
  | str x => exact ⟨_, n, rfl, .inr (.inr ⟨"str", fun K => .base (.str x), k_str_int, q⟩)⟩
  | lst a e z => exact ⟨_, n, rfl, .inr (.inr ⟨"list", fun K => .base (.lst e), k_list_int, q⟩)⟩
  | tup a e z => exact ⟨_, n, rfl, .inr (.inr ⟨"tuple", fun K => .base (.tup e), k_tuple_int, q⟩)⟩
  | dic a e => exact ⟨_, n, rfl, .inr (.inr ⟨"dict", fun K => .base (.dK e), k_dict_int, q⟩)⟩
theorem numB_true {n : Int} {d : PyData} (h : numB n d = true) : ∃ k : Nat, d = .int (k : Int) ∧ (k : Int) < n := by
  cases d with
  | int i =>
    have := of_decide_eq_true h
    exact ⟨i.toNat, by rw [Int.toNat_of_nonneg this.1], by omega⟩
  | _ => cases h
theorem numB_no {ss : List (List Wd)} {xs : List Row} {rs : List Bool} {d : PyData} (ok : ∀ sc ∈ ss, okScr sc) (si : SI ss xs) (h : numB (ss.length : Int) d = false) : wkS ss (some (xs, rs)) d = none := by
  cases e : wkS ss (some (xs, rs)) d with
  | none => rfl
  | some p =>
    obtain ⟨_, k, eq, rfl, hk, _⟩ := wkS_some e
    cases eq
    obtain ⟨_, _, _, _, hsc, _⟩ := wt_nx ok si hk
    have : k < ss.length := (List.getElem?_eq_some_iff.mp hsc).1
    have hh : numB (ss.length : Int) (.int (k : Int)) = true := decide_eq_true ⟨by omega, by omega⟩
    rw [hh] at h
    cases h
theorem not_wt {ss : List (List Wd)} {xs : List Row} {rs : List Bool} {k : Nat} (h : ¬ k ∈ wt ss xs) : wkS ss (some (xs, rs)) (.int (k : Int)) = none := by
  unfold wkS stepO
  rw [numD_nat]
  show Option.map _ (if k ∈ wt ss xs then _ else _) = _
  rw [if_neg h]
  rfl
section
variable {P : Program} {w : World} {K : PySem.W.Frag} {mg : Str → Option Value} {base : Heap}

def spIsLX : Sp := fun vs H Q _ => ∃ (m : Addr) (x : V) (d : PyData), vs = [x] ∧ Ax m H x d ∧ ∀ H', Same H H' → Q (.bl (isLT d)) H'
theorem pr_isLX (D : Df K mg "is_list" sIsList ["thing"]) (T : Ty mg) : Pr P w K mg base 1 "is_list" ["thing"] spIsLX := by
  refine D.pr scIsList (fun vs H Q E h => ?_) (fun f cdv A outer s H vs Q E hr h => ?_)
  · obtain ⟨m, x, d, rfl, _⟩ := h
    rfl
  · obtain ⟨m, x, d, rfl, ha, k⟩ := h
    have nd := scIsList.nd
    refine ⟨_, (pss_one (ps_ret (pe_callB call_isiT (by rfl) T.isinstance (by decide +kernel) (pa_cons (pv 0) (pa_cons (pe_tup (pa_cons (pe_bltn (v := .ty "list") (by rfl) T.list (by decide +kernel) rfl) (pa_cons (pe_bltn (v := .ty "tuple") (by rfl) T.tuple (by decide +kernel) rfl) pa_nil))) pa_nil))))), ?_⟩
    refine ⟨_, rfl, (by show 2 ≤ sizeLine; decide), fun tp htp => ?_⟩
    have sm := same_new (o := .tup [.ty "list", .ty "tuple"]) htp
    exact ax_isiT (ha.mono (Same.but (m := m) sm)) upd_same (k _ sm)
def spIsO : Sp := fun vs H Q _ => ∃ (m A : Addr) (x : V) (o : HO) (ss : List (List Wd)) (d od : PyData), H m = some o ∧ NoT H m ∧ vs = [.ref A, x] ∧ At m H (.ref A) d ∧ ScIn ss d ∧ Ok4 ss ∧ Ax m H x od ∧ ∀ H', Same H H' → Q (.bl (isOrd ss od)) H'
theorem pr_isO (D' : Df K mg "is_order" sIsO ["scripts", "order"]) (T : Ty mg) (TE : mg "enumerate" = none) (PIL : Pr P w K mg base 1 "is_list" ["thing"] spIsLX) (PC : Pr P w K mg base 3 "checked" ["scripts"] spChecked) (PF : Pr P w K mg base 4 "first_state" ["scripts"] spFirst) (PNu : Pr P w K mg base 1 "is_number" ["thing", "many"] spNum)
    (PWt : Pr P w K mg base 4 "waiting_ones" ["scripts", "state"] spWait) (PM : Pr P w K mg base 4 "moved" ["scripts", "state", "at"] spMoved) : Pr P w K mg base 5 "is_order" ["scripts", "order"] spIsO := by
  refine D'.pr scIsO (fun vs H Q E h => ?_) (fun f cdv A outer s H vs Q E hr h => ?_)
  · obtain ⟨m, A, x, o, ss, d, od, hm, _, rfl, _⟩ := h
    rfl
  · obtain ⟨m, A, x, o, ss, d, od, hm, nTm, rfl, hA, hin, ok4, hx, k⟩ := h
    have nd := scIsO.nd
    have hr1 := hr.mono (show 1 ≤ 4 by decide)
    have hr3 := hr.mono (show 3 ≤ 4 by decide)
    have l4 := ok4.l4
    refine ⟨_, (pss_cons (ps_asg (pe_callP PC hr3 (by rfl) (pa_cons (pv 0) pa_nil)) (pg_name (i := 0) nd rfl (Or.inl rfl)))
      (pss_cons (ps_asg (pe_callP PF hr (by rfl) (pa_cons (pv 0) pa_nil)) (pg_name (i := 2) nd rfl (Or.inl rfl)))
      (pss_cons (ps_if (PW.pt (pw_or (pt_not (pt_val (pe_callP PIL hr1 (by rfl) (pa_cons (pv 1) pa_nil)))) (pw_or1 (pt_cmpR op_eq (pe_callB call_len (by rfl) T.len PySem.boot_len (pa_cons (pv 1) pa_nil)) pe_int (nomark _)))))
        (pss_one (ps_ret pe_bl))
        pss_nil)
      (pss_cons (ps_for PassesOwn.never rfl (pi_enSq (by rfl) TE (pa_cons (pv 1) pa_nil)) (pg_tup rfl (pgs_cons (pg_name (i := 3) nd rfl (Or.inl rfl)) (pgs_cons (pg_name (i := 4) nd rfl (Or.inl rfl)) pgs_nil)))
        (pss_cons (ps_if (PW.pt (pw_or (pt_not (pt_val (pe_callP PNu hr1 (by rfl) (pa_cons (pv 4) (pa_cons (pe_callB call_len (by rfl) T.len PySem.boot_len (pa_cons (pv 0) pa_nil)) pa_nil))))) (pw_or1 (pt_cmpR op_notIn_seq (pv 4) (pe_callP PWt hr (by rfl) (pa_cons (pv 0) (pa_cons (pv 2) pa_nil))) (by rfl)))))
          (pss_one (ps_ret pe_bl))
          pss_nil)
        (pss_cons (ps_asg (pe_callP PM hr (by rfl) (pa_cons (pv 0) (pa_cons (pv 2) (pa_cons (pv 4) pa_nil)))) (pg_tup rfl (pgs_cons (pg_name (i := 2) nd rfl (Or.inl rfl)) (pgs_cons (pg_name (i := 5) nd rfl (Or.inl rfl)) pgs_nil))))
        (pss_one (ps_if (pt_cmpR op_ne (pv 5) (pe_cmpR op_eq (pv 3) (pe_op op_sub (pe_callB call_len (by rfl) T.len PySem.boot_len (pa_cons (pv 1) pa_nil)) pe_int) (nomark _)) (nomark _))
          (pss_one (ps_ret pe_bl))
          pss_nil)))))
      (pss_one (ps_ret pe_bl)))))), ?_⟩
    refine ⟨_, rfl, m, A, o, ss, d, hm, rfl, hA, hin, ok4.l1, ok4.l4, ok4.ok, fun q1 H1 s1 a1 => ?_⟩
    refine ⟨_, rfl, m, q1, o, ss, scD ss, s1 _ _ hm, rfl, a1, ScIn.self ss, ok4.l1, ok4.l4, ok4.ok, fun q2 H2 s2 a2 => ?_⟩
    have t1 := (a1.tp (isT_sc ss)).mono (.same s2)
    have t2 : Tp H2 (.ref q2) (stD (s0 ss)) := a2.tp (isT_st _)
    have s12 := Same.tr s1 s2
    have hm2 := s12 _ _ hm
    -- is_list, len
    refine ⟨_, rfl, m, x, od, rfl, hx.mono (Same.but (m := m) s12), fun H3 s3 => ?_⟩
    have s13 := Same.tr s12 s3
    refine ⟨_, rfl, ?_⟩
    cases hlt : isLT od
    · refine iteT (iteT ?_)
      rw [← isOrd_no (ss := ss) hlt]
      exact k _ s13
    obtain ⟨ds, sq⟩ := isLT_sq hlt
    obtain ⟨p, us, rfl, np, hsq, hus⟩ := ax_sq hx sq
    have hlen := hus.length
    have hord : isOrd ss od = ord1 ss ds := isOrd_sq sq
    refine iteF ?_
    refine ⟨_, rfl, _, _, rfl, (hsq.same s13).len, rfl, _, rfl, ?_⟩
    rw [vint]
    by_cases h0 : ((us.length : Nat) : Int) = 0
    · rw [decide_eq_true h0]
      refine iteT ?_
      have : isOrd ss od = false := by
        rw [hord]
        cases ds with
        | nil => rfl
        | cons d r =>
          rw [List.length_cons] at hlen
          omega
      rw [← this]
      exact k _ s13
    rw [decide_eq_false h0]
    refine iteF ?_
    obtain ⟨n, hn⟩ : ∃ n, ds.length = n + 1 := ⟨ds.length - 1, by omega⟩
    refine ienq (a := p) (us := us) (fun Q q => ⟨_, rfl, q⟩) (hsq.same s13) (fun J G W hG => ?_)
    refine for_it W (fun j σ H4 => ∃ (B : Addr) (xs : List Row) (o3 o4 o5 : Option V), σ = [some (.ref q1), some (.ref p), some (.ref B), o3, o4, o5] ∧ Same H3 H4 ∧ Tp H4 (.ref q1) (scD ss) ∧ Tp H4 (.ref B) (stD xs) ∧ wk ss (ds.take j) = some (xs, flgs n j)) ?_ ?_ ?_ ?_
    · exact ⟨q2, s0 ss, _, _, _, rfl, (fun _ _ e => e), t1.mono (.same s3), t2.mono (.same s3), rfl⟩
    · rintro j σ H4 _ ⟨B, xs, o3, o4, o5, _, s4, _⟩
      exact hG _ (fun _ e => s4 _ _ e)
    · rintro j y σ H4 H9 hj ⟨B, xs, o3, o4, o5, rfl, s34, tq4, tB4, hwk⟩ ⟨T2, i', vr, rfl, hT2, rfl, ei, er⟩
      obtain rfl : V.int (j : Nat) = i' := Option.some.inj ei
      obtain ⟨dx, e1, ax⟩ := hus.get (show us[j]? = some vr from er)
      have si : SI ss xs := (wk_si ok4.ok hwk).1
      have hjn : j ≤ n := by omega
      have hnext : wk ss (ds.take (j + 1)) = wkS ss (some (xs, flgs n j)) dx := by rw [take_succ' e1, wk_snoc, hwk]
      have lxs : ss.length = xs.length := paired_len si
      generalize hH5 : upd H4 T2 _ = H5
      have s5 : Same H4 H5 := hH5 ▸ Same.new hT2
      have e5 : H5 T2 = some (.tup [.int (j : Nat), vr]) := hH5 ▸ upd_same
      clear hH5
      refine ⟨_, _, rfl, SqT.of e5, rfl, _, _, rfl, _, _, rfl, rfl, ?_⟩
      have tq5 := tq4.mono (.same s5)
      have tB5 := tB4.mono (.same s5)
      obtain ⟨_, uq, eq, hq5, aq⟩ := Tp.ref (ds := ss.map fun sc => .tuple (sc.map fun v => .str (wS v))) tq5
      cases eq
      have luq : uq.length = ss.length := by rw [aq.length, List.length_map]
      have s45 := Same.tr (Same.tr s13 s34) s5
      have hm5 := s45 _ _ hm
      have nT5 : NoT H5 m := fun xs z => by
        rw [hm5] at z
        exact nTm xs (by rw [hm]; exact z)
      have ax5 := ax.mono (Same.but (m := m) s45)
      have ret : ord1 ss ds = false → ∀ H', Same H5 H' → Q (.bl false) H' := fun e H' s' => by
        rw [← e, ← hord]
        exact k _ (Same.tr s45 s')
      -- is_number
      refine ⟨_, rfl, _, rfl, _, _, rfl, (Or.inr ⟨_, SqT.of hq5, rfl⟩), ?_⟩
      dsimp only [tNil, tCons]
      refine num_x ax5 ?_
      rw [luq]
      refine ⟨_, rfl, ?_⟩
      cases hnb : numB (ss.length : Int) dx
      · refine iteT (iteT ?_)
        exact ret (ord_none (j := j + 1) (by rw [hnext]; exact numB_no ok4.ok si hnb)).1 _ (fun _ _ e => e)
      obtain ⟨kk, rfl, hkn⟩ := numB_true hnb
      cases ax
      refine iteF ?_
      -- in waiting_ones
      refine ⟨_, rfl, _, rfl, _, rfl, m, q1, B, ss, _, rfl, tq5.at nT5, tB5.at nT5, lxs, (by omega), fun q6 H6 _ s6 hl6 => ?_⟩
      refine ⟨_, _, rfl, .inl (SqL.of hl6), rfl, flat_nats _, ?_⟩
      rw [inV_nat]
      refine ⟨_, rfl, ?_⟩
      by_cases hkw : kk ∈ wt ss xs
      case neg =>
        rw [decide_eq_false (show ¬ kk ∈ waitL ss xs xs.length from hkw)]
        refine iteT ?_
        exact ret (ord_none (j := j + 1) (by rw [hnext]; exact not_wt hkw)).1 _ s6
      rw [decide_eq_true (show kk ∈ waitL ss xs xs.length from hkw)]
      refine iteF ?_
      obtain ⟨sc, x, pl, v, hsc, hx2, hp, hv, hnx, sin, haf⟩ := wt_nx ok4.ok si hkw
      rw [wkS_go hkw] at hnext
      -- moved
      have hm6 := s6 _ _ hm5
      have nT6 : NoT H6 m := fun xs z => by
        rw [hm6] at z
        exact nTm xs (by rw [hm]; exact z)
      refine ⟨_, rfl, _, rfl, _, rfl, m, q1, B, o, ss, _, kk, pl, sc, x, v, hm6, rfl, (tq5.mono (.same s6)).at nT6, (tB5.mono (.same s6)).at nT6, (by omega), hsc, hx2, hp, hv, fun q7 H7 _ s7 a7 => ?_⟩
      have e1 : (nx ss xs kk).1 = xs.set kk (triedM v x (topM xs kk)).1 := by rw [hnx]
      have e2 : (nx ss xs kk).2 = (triedM v x (topM xs kk)).2 := by rw [hnx]
      rw [← e1, ← e2] at a7
      obtain ⟨_, u7, eu, _, h7, au⟩ := at_tup a7
      cases eu
      cases au with
      | @cons va _ _ _ aa ar =>
        cases ar with
        | cons ab ar2 =>
          cases ar2
          cases ab
          have ta7 := aa.tp (isT_st _)
          obtain ⟨a8, x8, rfl, _, _⟩ := Tp.ref (ds := (nx ss xs kk).1.map rowD) ta7
          refine ⟨_, _, rfl, SqT.of h7, rfl, _, _, rfl, _, _, rfl, rfl, ?_⟩
          have s67 := Same.tr s6 s7
          have s47 := Same.tr s5 s67
          -- refused != (k == len(order) - 1)
          refine ⟨_, rfl, _, rfl, _, rfl, _, _, rfl, (hsq.same (Same.tr s45 s67)).len, _, _, rfl, rfl, rfl, ?_⟩
          dsimp only
          rw [vint]
          refine ⟨rfl, _, rfl, ?_⟩
          have hdec : decide (((j : Nat) : Int) = ((us.length : Nat) : Int) - 1) = decide (j = n) := by
            by_cases h : j = n
            · rw [decide_eq_true h, decide_eq_true (by omega)]
            · rw [decide_eq_false h, decide_eq_false (by omega)]
          rw [hdec]
          by_cases hr2 : (nx ss xs kk).2 = decide (j = n)
          case neg =>
            rw [decide_eq_false (show ¬ V.bl (nx ss xs kk).2 = V.bl (decide (j = n)) from fun z => hr2 (V.bl.inj z))]
            refine iteT ?_
            exact ret (ord_bad ok4.ok hn hjn hnext hr2) _ s67
          rw [decide_eq_true (show V.bl (nx ss xs kk).2 = V.bl (decide (j = n)) by rw [hr2])]
          refine iteF ?_
          refine ⟨a8, _, _, _, _, rfl, Same.tr s34 s47, (tq5.mono (.same s67)), ta7, ?_⟩
          rw [hnext, hr2, flgs_snoc hjn]
    · rintro σ H4 ⟨B, xs, o3, o4, o5, rfl, s34, _, _, hwk⟩
      rw [hlen, List.take_length, hn] at hwk
      have : isOrd ss od = true := by
        rw [hord]
        unfold ord1
        rw [hwk]
        exact ordF_flgs n
      rw [← this]
      exact k _ (Same.tr s13 s34)
def spIsS : Sp := fun vs H Q _ => ∃ (m A : Addr) (x : V) (o : HO) (ss : List (List Wd)) (d od : PyData), H m = some o ∧ NoT H m ∧ vs = [.ref A, x] ∧ At m H (.ref A) d ∧ ScIn ss d ∧ Ok4 ss ∧ Ax m H x od ∧ ∀ H', Same H H' → Q (.bl (isStu ss od)) H'
theorem pr_isS (D' : Df K mg "is_stuck" sIsS ["scripts", "order"]) (T : Ty mg) (PIL : Pr P w K mg base 1 "is_list" ["thing"] spIsLX) (PC : Pr P w K mg base 3 "checked" ["scripts"] spChecked) (PF : Pr P w K mg base 4 "first_state" ["scripts"] spFirst) (PNu : Pr P w K mg base 1 "is_number" ["thing", "many"] spNum)
    (PWt : Pr P w K mg base 4 "waiting_ones" ["scripts", "state"] spWait) (PM : Pr P w K mg base 4 "moved" ["scripts", "state", "at"] spMoved) (PS : Pr P w K mg base 5 "is_stuck_state" ["scripts", "state"] spIss) : Pr P w K mg base 6 "is_stuck" ["scripts", "order"] spIsS := by
  refine D'.pr scIsS (fun vs H Q E h => ?_) (fun f cdv A outer s H vs Q E hr h => ?_)
  · obtain ⟨m, A, x, o, ss, d, od, hm, _, rfl, _⟩ := h
    rfl
  · obtain ⟨m, A, x, o, ss, d, od, hm, nTm, rfl, hA, hin, ok4, hx, k⟩ := h
    have nd := scIsS.nd
    have hr1 := hr.mono (show 1 ≤ 5 by decide)
    have hr3 := hr.mono (show 3 ≤ 5 by decide)
    have hr4 := hr.mono (show 4 ≤ 5 by decide)
    have l4 := ok4.l4
    refine ⟨_, (pss_cons (ps_asg (pe_callP PC hr3 (by rfl) (pa_cons (pv 0) pa_nil)) (pg_name (i := 0) nd rfl (Or.inl rfl)))
      (pss_cons (ps_asg (pe_callP PF hr4 (by rfl) (pa_cons (pv 0) pa_nil)) (pg_name (i := 2) nd rfl (Or.inl rfl)))
      (pss_cons (ps_if (pt_not (pt_val (pe_callP PIL hr1 (by rfl) (pa_cons (pv 1) pa_nil))))
        (pss_one (ps_ret pe_bl))
        pss_nil)
      (pss_cons (ps_for PassesOwn.never rfl (pi_sq (pv 1)) (pg_name (i := 3) nd rfl (Or.inl rfl))
        (pss_cons (ps_if (PW.pt (pw_or (pt_not (pt_val (pe_callP PNu hr1 (by rfl) (pa_cons (pv 3) (pa_cons (pe_callB call_len (by rfl) T.len PySem.boot_len (pa_cons (pv 0) pa_nil)) pa_nil))))) (pw_or1 (pt_cmpR op_notIn_seq (pv 3) (pe_callP PWt hr4 (by rfl) (pa_cons (pv 0) (pa_cons (pv 2) pa_nil))) (by rfl)))))
          (pss_one (ps_ret pe_bl))
          pss_nil)
        (pss_one (ps_asg (pe_ix ix_tup (pe_callP PM hr4 (by rfl) (pa_cons (pv 0) (pa_cons (pv 2) (pa_cons (pv 3) pa_nil)))) pe_int (fun _ _ => rfl)) (pg_name (i := 2) nd rfl (Or.inl rfl))))))
      (pss_one (ps_ret (pe_callP PS hr (by rfl) (pa_cons (pv 0) (pa_cons (pv 2) pa_nil))))))))), ?_⟩
    refine ⟨_, rfl, m, A, o, ss, d, hm, rfl, hA, hin, ok4.l1, ok4.l4, ok4.ok, fun q1 H1 s1 a1 => ?_⟩
    refine ⟨_, rfl, m, q1, o, ss, scD ss, s1 _ _ hm, rfl, a1, ScIn.self ss, ok4.l1, ok4.l4, ok4.ok, fun q2 H2 s2 a2 => ?_⟩
    have t1 := (a1.tp (isT_sc ss)).mono (.same s2)
    have t2 : Tp H2 (.ref q2) (stD (s0 ss)) := a2.tp (isT_st _)
    have s12 := Same.tr s1 s2
    have hm2 := s12 _ _ hm
    refine ⟨_, rfl, m, x, od, rfl, hx.mono (Same.but (m := m) s12), fun H3 s3 => ?_⟩
    have s13 := Same.tr s12 s3
    refine ⟨_, rfl, ?_⟩
    cases hlt : isLT od
    · refine iteT ?_
      rw [← isStu_no (ss := ss) hlt]
      exact k _ s13
    obtain ⟨ds, sq⟩ := isLT_sq hlt
    obtain ⟨p, us, rfl, np, hsq, hus⟩ := ax_sq hx sq
    have hlen := hus.length
    have hord : isStu ss od = stk1 ss ds := isStu_sq sq
    refine iteF ?_
    refine isq (a := p) (us := us) (fun Q q => ⟨_, rfl, q⟩) (hsq.same s13) (fun J G W hG => ?_)
    refine for_it W (fun j σ H4 => ∃ (B : Addr) (xs : List Row) (rs : List Bool) (o3 : Option V), σ = [some (.ref q1), some (.ref p), some (.ref B), o3] ∧ Same H3 H4 ∧ Tp H4 (.ref q1) (scD ss) ∧ Tp H4 (.ref B) (stD xs) ∧ wk ss (ds.take j) = some (xs, rs)) ?_ ?_ ?_ ?_
    · exact ⟨q2, s0 ss, [], _, rfl, (fun _ _ e => e), t1.mono (.same s3), t2.mono (.same s3), rfl⟩
    · rintro j σ H4 _ ⟨B, xs, rs, o3, _, s4, _⟩
      exact hG _ (fun _ e => s4 _ _ e)
    · rintro j vr σ H5' H5 hj ⟨B, xs, rs, o3, rfl, s34, tq5, tB5, hwk⟩ ⟨e5, er⟩
      subst e5
      obtain ⟨dx, e1, ax⟩ := hus.get er
      have si : SI ss xs := (wk_si ok4.ok hwk).1
      have hnext : wk ss (ds.take (j + 1)) = wkS ss (some (xs, rs)) dx := by rw [take_succ' e1, wk_snoc, hwk]
      have lxs : ss.length = xs.length := paired_len si
      obtain ⟨_, uq, eq, hq5, aq⟩ := Tp.ref (ds := ss.map fun sc => .tuple (sc.map fun v => .str (wS v))) tq5
      cases eq
      have luq : uq.length = ss.length := by rw [aq.length, List.length_map]
      have s45 := Same.tr s13 s34
      have hm5 := s45 _ _ hm
      have nT5 : NoT H5 m := fun xs z => by
        rw [hm5] at z
        exact nTm xs (by rw [hm]; exact z)
      have ax5 := ax.mono (Same.but (m := m) s45)
      have ret : stk1 ss ds = false → ∀ H', Same H5 H' → Q (.bl false) H' := fun e H' s' => by
        rw [← e, ← hord]
        exact k _ (Same.tr s45 s')
      refine ⟨_, rfl, _, rfl, _, _, rfl, (Or.inr ⟨_, SqT.of hq5, rfl⟩), ?_⟩
      dsimp only [tNil, tCons]
      refine num_x ax5 ?_
      rw [luq]
      refine ⟨_, rfl, ?_⟩
      cases hnb : numB (ss.length : Int) dx
      · refine iteT (iteT ?_)
        exact ret (ord_none (j := j + 1) (by rw [hnext]; exact numB_no ok4.ok si hnb)).2 _ (fun _ _ e => e)
      obtain ⟨kk, rfl, hkn⟩ := numB_true hnb
      cases ax
      refine iteF ?_
      refine ⟨_, rfl, _, rfl, _, rfl, m, q1, B, ss, _, rfl, tq5.at nT5, tB5.at nT5, lxs, (by omega), fun q6 H6 _ s6 hl6 => ?_⟩
      refine ⟨_, _, rfl, .inl (SqL.of hl6), rfl, flat_nats _, ?_⟩
      rw [inV_nat]
      refine ⟨_, rfl, ?_⟩
      by_cases hkw : kk ∈ wt ss xs
      case neg =>
        rw [decide_eq_false (show ¬ kk ∈ waitL ss xs xs.length from hkw)]
        refine iteT ?_
        exact ret (ord_none (j := j + 1) (by rw [hnext]; exact not_wt hkw)).2 _ s6
      rw [decide_eq_true (show kk ∈ waitL ss xs xs.length from hkw)]
      refine iteF ?_
      obtain ⟨sc, x, pl, v, hsc, hx2, hp, hv, hnx, sin, haf⟩ := wt_nx ok4.ok si hkw
      rw [wkS_go hkw] at hnext
      have hm6 := s6 _ _ hm5
      have nT6 : NoT H6 m := fun xs z => by
        rw [hm6] at z
        exact nTm xs (by rw [hm]; exact z)
      refine ⟨_, rfl, _, rfl, _, rfl, m, q1, B, o, ss, _, kk, pl, sc, x, v, hm6, rfl, (tq5.mono (.same s6)).at nT6, (tB5.mono (.same s6)).at nT6, (by omega), hsc, hx2, hp, hv, fun q7 H7 _ s7 a7 => ?_⟩
      have e1 : (nx ss xs kk).1 = xs.set kk (triedM v x (topM xs kk)).1 := by rw [hnx]
      have e2 : (nx ss xs kk).2 = (triedM v x (topM xs kk)).2 := by rw [hnx]
      rw [← e1, ← e2] at a7
      obtain ⟨_, u7, eu, _, h7, au⟩ := at_tup a7
      cases eu
      cases au with
      | @cons va _ _ _ aa ar =>
        cases ar with
        | cons ab ar2 =>
          cases ar2
          cases ab
          have ta7 := aa.tp (isT_st _)
          obtain ⟨a8, x8, rfl, _, _⟩ := Tp.ref (ds := (nx ss xs kk).1.map rowD) ta7
          have s67 := Same.tr s6 s7
          refine ⟨_, _, _, _, rfl, rfl, SqT.of h7, rfl, ?_⟩
          exact ⟨a8, _, _, _, rfl, Same.tr s34 s67, (tq5.mono (.same s67)), ta7, hnext⟩
    · rintro σ H4 ⟨B, xs, rs, o3, rfl, s34, tq4, tB4, hwk⟩
      rw [hlen, List.take_length] at hwk
      have s04 := Same.tr s13 s34
      have hm4 := s04 _ _ hm
      have nT4 : NoT H4 m := fun xs z => by
        rw [hm4] at z
        exact nTm xs (by rw [hm]; exact z)
      refine ⟨_, rfl, _, rfl, q1, B, ss, xs, rfl, tq4, tB4, (wk_si ok4.ok hwk).1, ok4, ⟨m, nT4⟩, fun H5 s5 => ?_⟩
      have : isStu ss od = stk ss xs := by
        rw [hord]
        unfold stk1
        rw [hwk]
      rw [← this]
      exact k _ (Same.tr s04 s5)
end
end C81

set_option Elab.async false
set_option maxRecDepth 100000
set_option maxHeartbeats 4000000
set_option linter.all false
namespace C81
open PySem L2 My M78
abbrev sIsR : Stmt := top 30
abbrev nIsR : List Str := ["thing", "place", "opened", "reads", "lock"]
theorem scIsR : FnScope nIsR ["thing"] (defScope sIsR) := ⟨rfl, rfl, rfl, by decide +kernel, rfl, by decide +kernel, by decide +kernel⟩

/-! a, b, .. = a list or a tuple of that length -/
def gSq (K : PySem.W.Frag) (n : Nat) (t : TGs) : TG := fun v σ H Q => gLst K n t v σ H Q ∨ gTup K n t v σ H Q
section
variable {X : Cx} {pos : Pos}
theorem pg_sq {es : List Expr} {k : Nat} {t : TGs} {n : Nat} (hc : X.calm = true) (h : PGs X es t) (hn : (assignEach es X.env).length = n := by rfl) (hst : (assignEach es X.env).findIdx? (·.1) = none := by rfl) : PG X (.Tuple es k pos) (gSq X.K n t) :=
  ⟨fun pins s σ H v u Q I r hw => hw.elim ((pg_lst hc h hn hst).run pins s σ H v u Q I r) ((pg_tup hc h hn hst).run pins s σ H v u Q I r)⟩
end
theorem gsq {K : PySem.W.Frag} {n : Nat} {t : TGs} {a : Addr} {us : List V} {σ : L2.St} {H : Hp} {Q : L2.St → Hp → Prop} (h : Sq H a us) (l : us.length = n) (q : t us σ H Q) : gSq K n t (.ref a) σ H Q := by
  rcases h with h | h
  · exact .inl ⟨a, us, rfl, SqL.of h, l, q⟩
  · exact .inr ⟨a, us, rfl, SqT.of h, l, q⟩
/-! rows and states -/
def intD : PyData → Option Int
  | .int i => some i
  | _ => none
def bolD : PyData → Option Bool
  | .bool b => some b
  | _ => none
def row4 : List PyData → Option Row
  | [a, b, c, d] => match intD a, bolD b, bolD c, intD d with
    | some p, some o, some r, some l => some ⟨p, o, r, l⟩
    | _, _, _, _ => none
  | _ => none
def rowP : PyData → Option Row
  | .list ds => row4 ds
  | .tuple ds => row4 ds
  | _ => none
def goodR (x : Row) : Bool := decide (0 ≤ x.p ∧ x.p < 9) && decide (0 ≤ x.l ∧ x.l < 5)
/-- a row of the form -/
def isRowD (d : PyData) : Bool := match rowP d with
  | some x => goodR x
  | none => false
theorem rowP_sq {d : PyData} {ds : List PyData} (s : Sq2 d ds) : rowP d = row4 ds := by rcases s with rfl | rfl <;> rfl
theorem isRowD_no {d : PyData} (h : isLT d = false) : isRowD d = false := by
  cases d <;> first | rfl | cases h
theorem intD_some {d : PyData} {i : Int} (h : intD d = some i) : d = .int i := by
  cases d <;> first | (cases h; rfl) | cases h
theorem bolD_some {d : PyData} {b : Bool} (h : bolD d = some b) : d = .bool b := by
  cases d <;> first | (cases h; rfl) | cases h
theorem row4_some {ds : List PyData} {x : Row} (h : row4 ds = some x) : ds = [.int x.p, .bool x.o, .bool x.r, .int x.l] := by
  unfold row4 at h
  split at h
  · split at h
    · rename_i h1 h2 h3 h4
      cases h
      rw [intD_some h1, bolD_some h2, bolD_some h3, intD_some h4]
    · cases h
  · cases h
theorem row4_of (x : Row) : row4 [.int x.p, .bool x.o, .bool x.r, .int x.l] = some x := rfl
theorem row4_len {ds : List PyData} (h : ds.length ≠ 4) : row4 ds = none := by
  cases e : row4 ds with
  | none => rfl
  | some x =>
    rw [row4_some e] at h
    exact absurd rfl h
theorem rowP_of (x : Row) : rowP (rowD x) = some x := rfl
theorem rowP_some {d : PyData} {x : Row} (h : rowP d = some x) : Sq2 d [.int x.p, .bool x.o, .bool x.r, .int x.l] := by
  cases d with
  | list ds => exact .inl (congrArg _ (row4_some (ds := ds) h))
  | tuple ds => exact .inr (congrArg _ (row4_some (ds := ds) h))
  | _ => cases h
def isBD (d : PyData) : Bool := (bolD d).isSome
theorem k_dict_bool : kitB "dict" "bool" = some false := by decide +kernel
theorem k_bd (d : PyData) : kitB (tyS d) "bool" = some (isBD d) := by
  cases d
  · exact k_NoneType_bool
  · exact k_bool_bool
  · exact k_int_bool
  · exact k_str_bool
  · exact k_list_bool
  · exact k_tuple_bool
  · exact k_dict_bool
theorem numB_int (n : Int) (d : PyData) : numB n d = match intD d with
    | some i => decide (0 ≤ i ∧ i < n)
    | none => false := by
  cases d <;> rfl
theorem isRow4 (a b c d : PyData) : (match row4 [a, b, c, d] with | some x => goodR x | none => false) = (isBD b && isBD c && numB 9 a && numB 5 d) := by
  rw [numB_int, numB_int]
  unfold row4 isBD
  dsimp only
  generalize intD a = ia
  generalize bolD b = ib
  generalize bolD c = ic
  generalize intD d = id
  cases ia <;> cases ib <;> cases ic <;> cases id <;> simp [goodR]
theorem all4 {α : Type} {l : List α} (h : l.length = 4) : ∃ a b c d, l = [a, b, c, d] := by
  match l, h with
  | [a, b, c, d], _ => exact ⟨a, b, c, d, rfl⟩
section
variable {P : Program} {w : World} {K : PySem.W.Frag} {mg : Str → Option Value} {base : Heap}

def spIsR : Sp := fun vs H Q _ => ∃ (m : Addr) (x : V) (d : PyData), vs = [x] ∧ Ax m H x d ∧ ∀ H', Same H H' → Q (.bl (isRowD d)) H'
theorem pr_isR (D' : Df K mg "is_state_row" sIsR ["thing"]) (T : Ty mg) (PIL : Pr P w K mg base 1 "is_list" ["thing"] spIsLX) (PNu : Pr P w K mg base 1 "is_number" ["thing", "many"] spNum) : Pr P w K mg base 2 "is_state_row" ["thing"] spIsR := by
  refine D'.pr scIsR (fun vs H Q E h => ?_) (fun f cdv A outer s H vs Q E hr h => ?_)
  · obtain ⟨m, x, d, rfl, _⟩ := h
    rfl
  · obtain ⟨m, x, d, rfl, ha, k⟩ := h
    have nd := scIsR.nd
    refine ⟨_, (pss_cons (ps_if (PW.pt (pw_or (pt_not (pt_val (pe_callP PIL hr (by rfl) (pa_cons (pv 0) pa_nil)))) (pw_or1 (pt_cmpR op_ne (pe_callB call_len (by rfl) T.len PySem.boot_len (pa_cons (pv 0) pa_nil)) pe_int (nomark _)))))
        (pss_one (ps_ret pe_bl))
        pss_nil)
      (pss_cons (ps_asg (pv 0) (pg_sq rfl (pgs_cons (pg_name (i := 1) nd rfl (Or.inl rfl)) (pgs_cons (pg_name (i := 2) nd rfl (Or.inl rfl)) (pgs_cons (pg_name (i := 3) nd rfl (Or.inl rfl)) (pgs_cons (pg_name (i := 4) nd rfl (Or.inl rfl)) pgs_nil))))))
      (pss_cons (ps_if (PW.pt (pw_or (pt_not (pt_val (pe_callB call_isi (by rfl) T.isinstance (by decide +kernel) (pa_cons (pv 2) (pa_cons (pe_bltn (v := .ty "bool") (by rfl) T.bool (by decide +kernel) rfl) pa_nil))))) (pw_or1 (pt_not (pt_val (pe_callB call_isi (by rfl) T.isinstance (by decide +kernel) (pa_cons (pv 3) (pa_cons (pe_bltn (v := .ty "bool") (by rfl) T.bool (by decide +kernel) rfl) pa_nil))))))))
        (pss_one (ps_ret pe_bl))
        pss_nil)
      (pss_one (ps_ret (pe_and (pe_callP PNu hr (by rfl) (pa_cons (pv 1) (pa_cons pe_int pa_nil))) (pe_one (pe_callP PNu hr (by rfl) (pa_cons (pv 4) (pa_cons pe_int pa_nil)))))))))), ?_⟩
    refine ⟨_, rfl, m, x, d, rfl, ha, fun H1 s1 => ?_⟩
    refine ⟨_, rfl, ?_⟩
    cases hlt : isLT d
    · refine iteT (iteT ?_)
      rw [← isRowD_no hlt]
      exact k _ s1
    obtain ⟨ds, sq⟩ := isLT_sq hlt
    obtain ⟨p, us, rfl, np, hsq, hus⟩ := ax_sq ha sq
    have hlen := hus.length
    refine iteF ?_
    refine ⟨_, rfl, _, _, rfl, (hsq.same s1).len, rfl, _, rfl, ?_⟩
    rw [vint]
    by_cases h4 : us.length = 4
    case neg =>
      rw [decide_eq_false (show ¬ ((us.length : Int) = 4) by omega)]
      refine iteT ?_
      have : isRowD d = false := by
        unfold isRowD
        rw [rowP_sq sq, row4_len (by omega)]
      rw [← this]
      exact k _ s1
    rw [decide_eq_true (show (us.length : Int) = 4 by omega)]
    refine iteF ?_
    obtain ⟨v0, v1, v2, v3, rfl⟩ := all4 h4
    obtain ⟨d0, d1, d2, d3, rfl⟩ := all4 (hlen.symm.trans h4)
    have hrow : isRowD d = (isBD d1 && isBD d2 && numB 9 d0 && numB 5 d3) := by
      unfold isRowD
      rw [rowP_sq sq]
      exact isRow4 ..
    have hus1 := hus.mono (Same.but (m := m) s1)
    cases hus1 with
    | cons a0 r0 =>
    cases r0 with
    | cons a1 r1 =>
    cases r1 with
    | cons a2 r2 =>
    cases r2 with
    | cons a3 r3 =>
    refine ⟨_, rfl, gsq (hsq.same s1) rfl ?_⟩
    refine ⟨_, _, rfl, _, _, rfl, _, _, rfl, _, _, rfl, rfl, ?_⟩
    refine ⟨_, rfl, _, _, _, _, isBD d1, rfl, .ty "bool", a1.ty, kit_ty (k_bd d1), ?_⟩
    refine ⟨_, rfl, ?_⟩
    cases b1 : isBD d1
    · refine iteT (iteT ?_)
      rw [show false = isRowD d by rw [hrow, b1]; rfl]
      exact k _ s1
    refine iteF ?_
    refine ⟨_, rfl, _, _, _, _, isBD d2, rfl, .ty "bool", a2.ty, kit_ty (k_bd d2), ?_⟩
    refine ⟨_, rfl, ?_⟩
    cases b2 : isBD d2
    · refine iteT ?_
      rw [show false = isRowD d by rw [hrow, b1, b2]; rfl]
      exact k _ s1
    refine iteF ?_
    refine ⟨_, rfl, ?_⟩
    dsimp only [tNil, tCons, tC]
    refine num_x a0 ?_
    refine ⟨_, rfl, ?_⟩
    cases b3 : numB 9 d0
    · refine iteF ?_
      rw [show false = isRowD d by rw [hrow, b1, b2, b3]; rfl]
      exact k _ s1
    refine iteT ?_
    refine ⟨_, rfl, ?_⟩
    dsimp only [tNil, tCons, tC]
    refine num_x a3 ?_
    rw [show numB 5 d3 = isRowD d by rw [hrow, b1, b2, b3]; rfl]
    exact k _ s1
end
end C81

set_option Elab.async false
set_option maxRecDepth 100000
set_option maxHeartbeats 4000000
set_option linter.all false
/-! A dict comprehension whose keys are nested tuples (the form of HandS.DictComp's rule, with the dicts of ExtN). -/
namespace My
open PySem PySem.Spec PyProof.Rows L2
theorem nd_dictSet {X : Cx} {pins : List (Addr × Obj)} {σ : L2.St} {H : Hp} {s : Shared} {E : Value → Shared → Prop} {a b : Addr} {kvs : List NE} {k : NestedKey} {v : V} {r : Value} {Q : Unit → Shared → Prop} (hu : X.A.units + 64 < cLine) (I : Inv X pins σ H s) (d : DN X.prog X.w H a kvs)
    (hk : KtV H (.ref b) k) (hd : k.depth ≤ 8) (hz : kvs.length < sizeLine) (rv : RelV v r) (h : ∀ s', Inv X pins σ (upd H a (NDO X.prog X.w a (putN kvs k b v))) s' → Q () s') : wpAny (model X.prog X.w) X.A (dictSet a (.ref b) r) Q E s := by
  obtain ⟨hs, z, xs, rel, dd⟩ := nd_rd I.hok d
  have hroom : (nestedKind X.prog X.w).room X.A := by
    show X.A.units + 8 < cLine
    omega
  refine wpAny_dictSet_heap (hsz := by rw [← Paired.length rel]; exact z) hroom (nd_key I hk hd) dd fun h' dd' hsb => h _ ?_
  have he : ∃ q, h'.get? a = some q := let ⟨q, _, _, hq, _⟩ := dd'; ⟨q, hq⟩
  exact d_write I (by rw [d.1]; exact True.intro) hsb he (nd_ok hs (by have := putN_len kvs k b v; omega) (rel_put rel rv) dd')
section
variable {X : Cx}
/-- {k: v for target in iter if ..}: D the new dict -/
def tDcN (P : Program) (w : World) (wi : TI) (g : TG) (tt : TT) (tk tv : TE) (vs : List Nat) : TE := fun σ H Q => wi σ H fun J H1 => ∀ D, H1 D = none → ∃ W : Nat → Nat → Hp → Prop, (∃ m, W 0 m (upd H1 D (NDO P w D []))) ∧ ∀ i m H, W i m H →
  (J.stop i H ∧ Q (.ref D) H) ∨ (J.go i H ∧ ∃ Nx : Hp → Prop, (∀ H', Nx H' → ∃ m', m' < m ∧ W (i + 1) m' H') ∧ ∀ x H', J.yld i H x H' → g x (wipe σ vs) H' fun σ2 H2 => wipe σ2 vs = wipe σ vs ∧ tt σ2 H2 fun b H3 =>
    if b = true then tk σ2 H3 fun y H4 => tv σ2 H4 fun z H5 => ∃ kvs k q, y = .ref q ∧ DN P w H5 D kvs ∧ KtV H5 (.ref q) k ∧ k.depth ≤ 8 ∧ kvs.length < sizeLine ∧ Nx (upd H5 D (NDO P w D (putN kvs k q z))) else Nx H3)
theorem pe_dcN {kx vx tg iter : Expr} {ifs : List Expr} {scope : Scope} {own : List (Str × Nat)} {pos : Pos} {wi : TI} {g : TG} {tt : TT} {tk tv : TE} (hu : X.A.units + 64 < cLine) (hc : X.calm = true) (hN : X.N.Nodup) (hi : PI X tg iter wi) (ok : BlkOk X.N X.env.scope scope own)
    (hg : ∀ (s : Shared) (H : Hp) (C : Addr) (cl : List (Str × Addr)) (fp : List Addr), PG (X.blk s H scope (compEnvC scope cl C X.env) fp) tg g) (ht : ∀ (s : Shared) (H : Hp) (C : Addr) (cl : List (Str × Addr)) (fp : List Addr), PTs (X.blk s H scope (compEnvC scope cl C X.env) fp) ifs tt)
    (hk : ∀ (s : Shared) (H : Hp) (C : Addr) (cl : List (Str × Addr)) (fp : List Addr), PE (X.blk s H scope (compEnvC scope cl C X.env) fp) kx tk)
    (he : ∀ (s : Shared) (H : Hp) (C : Addr) (cl : List (Str × Addr)) (fp : List Addr), PE (X.blk s H scope (compEnvC scope cl C X.env) fp) vx tv) (hs : ∀ x, foldedSetIterable iter X.env x = pure x := by intro _; rfl) :
    PE X (.DictComp kx vx [⟨tg, iter, ifs, 0⟩] scope pos) (tDcN X.prog X.w wi g tt tk tv (own.map (·.2))) := by
  refine ⟨fun pins s σ H Q I h => ?_⟩
  rw [arm_eval_DictComp]
  have hfree : ∀ y ∈ scope.names, y.2 = .free → ∃ c, X.env.cells.lookup y.1 = some c := fun y hy e => (ok.free y hy e).elim (fun k => I.ok.has _ (.inl k)) fun k => I.ok.has _ (.inr k)
  refine wpAny_comprehension_free rfl hs (closure_ok hfree) ok.kind (fun y hy e => by rw [ok.uniq y hy, e]) (thn (hi.run pins s σ H _ I h) fun xv s1 hx => thn hx fun itv s2 h2 => ?_)
  obtain ⟨it, fp, tn, J, H2, e, I2, T, st2, f2, q⟩ := h2
  subst e
  refine wpAny_newObj_type (newEnv_comp ?_)
  obtain ⟨D, hD⟩ : ∃ D, s2.heap.objs.size = D := ⟨_, rfl⟩
  have hDn : H2 D = none := I2.hok.fresh (Nat.le_of_eq hD)
  obtain ⟨W, ⟨m0, w0⟩, turn⟩ := q D hDn
  obtain ⟨s3, hs3⟩ : ∃ s3, ({ s2 with heap := s2.heap.push { cls := .type "dict", data := .dict #[] } } : Shared) = s3 := ⟨_, rfl⟩
  obtain ⟨H3, hH3⟩ : ∃ H3, upd H2 D (NDO X.prog X.w D []) = H3 := ⟨_, rfl⟩
  have I3 : Inv X pins σ H3 s3 := by
    rw [← hs3, ← hH3]
    refine I2.laid (t' := s2.toks) (fun b o e => Heap.get?_push_of_some _ e) (Nat.le_of_eq hD) ?_
    rw [← hD]
    exact nd_empty s2.heap I2.big
  have h3 : s3.heap = s2.heap.push { cls := .type "dict", data := .dict #[] } := by rw [← hs3]
  have f3 : ∀ b ∈ fp, FpOk X pins H3 b ∧ b < s3.heap.objs.size := fun b hb => by
    obtain ⟨o, e, _⟩ := T.obj _ _ st2 b hb
    have hlt := Heap.lt_size e
    refine ⟨⟨?_, (f2 b hb).2⟩, by rw [h3, Heap.size_push]; exact Nat.lt_succ_of_lt hlt⟩
    rw [← hH3, upd_ne (by rw [← hD]; exact Nat.ne_of_lt hlt)]
    exact (f2 b hb).1
  have st3 : tn 0 s3.heap := T.keep _ _ _ st2 fun b _ o e => by rw [h3]; exact Heap.get?_push_of_some _ e
  have I4 := block_start I3 ok hN f3
  have pg := hg s3 H3 s3.heap.objs.size (cellsFrom (s3.heap.objs.size + 1) scope.names (cloFrom X.env.cells scope.names [])) fp
  have pt := ht s3 H3 s3.heap.objs.size (cellsFrom (s3.heap.objs.size + 1) scope.names (cloFrom X.env.cells scope.names [])) fp
  have pk := hk s3 H3 s3.heap.objs.size (cellsFrom (s3.heap.objs.size + 1) scope.names (cloFrom X.env.cells scope.names [])) fp
  have pe := he s3 H3 s3.heap.objs.size (cellsFrom (s3.heap.objs.size + 1) scope.names (cloFrom X.env.cells scope.names [])) fp
  have nfp : ∀ b ∈ fp, H3 b = none := fun b hb => (f3 b hb).1.1
  rw [hH3] at w0
  rw [hs3, hD]
  obtain ⟨ce, hce⟩ : ∃ ce, compEnvC scope (cellsFrom (s3.heap.objs.size + 1) scope.names (cloFrom X.env.cells scope.names [])) s3.heap.objs.size X.env = ce := ⟨_, rfl⟩
  have cL : ce.locals = s3.heap.objs.size := by subst hce; rfl
  rw [hce] at I4 pg pt pk pe
  obtain ⟨s4, hs4⟩ : ∃ s4, ({ s3 with heap := pushCells (s3.heap.push { cls := .type "dict", data := .dict #[] }) scope.names } : Shared) = s4 := ⟨_, rfl⟩
  rw [hs4] at I4
  have st4 : tn 0 s4.heap := T.keep _ _ _ st3 fun b _ o e => by rw [← hs4]; exact pushCells_keeps _ _ _ _ (Heap.get?_push_of_some _ e)
  have stat : ∀ {σ' : L2.St} {H' : Hp} {s' : Shared}, Inv (X.blk s3 H3 scope ce fp) [] σ' H' s' → (∀ b ∈ fp, H' b = none) → ∀ b ∈ fp, FpOk (X.blk s3 H3 scope ce fp) [] H' b := fun {σ' H' s'} I' hn b hb =>
    ⟨hn b hb, (I'.ok.exf b hb).1, I'.ok.exfs b hb, .inl hb, fun x c e => (I'.ok.exf b hb).2 x c e, fun p hp => absurd (show p ∈ ([] : List (Addr × Obj)) ++ [] from hp) (by simp)⟩
  suffices loop : codeAny (model X.prog X.w) X.A (.compLoop (.DictComp kx vx [⟨tg, iter, ifs, 0⟩] scope pos) 0 (.ref it) (.ref D) ce) (compPost (model X.prog X.w) X.A X.xe none (EP X pins σ Q) (.ref D) s3.heap.objs.size) s4 by
    show codeAny _ _ (.compStart (.DictComp kx vx [⟨tg, iter, ifs, 0⟩] scope pos) 0 (.ref it) (.ref D) (compEnvC scope (cellsFrom (s3.heap.objs.size + 1) scope.names (cloFrom X.env.cells scope.names [])) s3.heap.objs.size X.env)) (compPost (model X.prog X.w) X.A X.xe none (EP X pins σ Q) (.ref D) s3.heap.objs.size) { s3 with heap := pushCells (s3.heap.push { cls := .type "dict", data := .dict #[] }) scope.names }
    rw [hce, hs4]
    exact codeAny_compStart_dict loop (T.self X.A 0 _ _ _ st4 loop)
  refine compLoop_anyD (fun n s' => ∃ i H', Inv (X.blk s3 H3 scope ce fp) [] (wipe σ (own.map (·.2))) H' s' ∧ tn i s'.heap ∧ (∀ b ∈ fp, H' b = none) ∧ W i n H') ?_ m0 ⟨0, H3, I4, st4, nfp, w0⟩
  rintro n s5 ⟨i, H5, I5, st5, n5, w5⟩
  rcases turn i n H5 w5 with ⟨stop, qq⟩ | ⟨go, Nx, hNx, step⟩
  · refine thnF (T.done (X.blk s3 H3 scope ce fp) rfl rfl rfl hc i [] s5 _ H5 (fun _ _ => False) I5 (stat I5 n5) st5 stop) fun r s6 ⟨hr, I6⟩ => ?_
    subst hr
    have I7 : Inv X pins σ H5 s6 := I3.call' (ch := fp) I6.os I6.base I6.hok I6.bare fun b hb => ⟨(f3 b hb).1.2.2.2.1, (f3 b hb).1.2.1, (f3 b hb).1.2.2.2.2.1, (f3 b hb).1.2.2.2.2.2⟩
    have nC : H5 s3.heap.objs.size = none := by
      rw [← cL]
      exact I6.free
    obtain ⟨m, hn, _⟩ := I6.loc
    have hn : s6.heap.Ns ce.locals m := hn
    rw [cL] at hn
    obtain ⟨g0, g1, g2, g3, g4, g5⟩ := I3.fpOk (Nat.le_refl s3.heap.objs.size) nC
    exact ⟨m, hn, fun h'' sb => ⟨.ref D, H5, I7.turned (t' := s6.toks) (fun b o hb e => (sb.2 b hb).trans e) g0 g1 g3 g4 g5, rfl, qq⟩⟩
  · refine thnF (T.item (X.blk s3 H3 scope ce fp) rfl rfl rfl hc i [] s5 _ H5 (fun _ _ => False) I5 (stat I5 n5) st5 go) fun r s6 ⟨u, hr, h6⟩ => ?_
    subst hr
    refine thnF h6 fun _ s7 ⟨x, H7, I7, r7, y7, st7, n7⟩ => ?_
    refine thnF (pg.run _ s7 _ H7 x u _ (I7.pinned (stat I7 n7) (T.obj _ _ st7)) r7 (step x H7 y7)) fun _ s8 ⟨σ8, H8, I8, hw8, q8⟩ => ?_
    refine thnF (pt.run _ s8 σ8 H8 _ I8 q8) fun b s9 ⟨H9, I9, q9⟩ => ?_
    have fin : ∀ {s' : Shared} {H' : Hp}, Inv (X.blk s3 H3 scope ce fp) ([] ++ pinsAt fp s7.heap) σ8 H' s' → Nx H' → ∃ m, m < n ∧ ∃ i H', Inv (X.blk s3 H3 scope ce fp) [] (wipe σ (own.map (·.2))) H' s' ∧ tn i s'.heap ∧ (∀ b ∈ fp, H' b = none) ∧ W i m H' := fun {s' H'} I' nx => by
      obtain ⟨m', hm, w'⟩ := hNx H' nx
      have pin' : ∀ b ∈ fp, ∀ o, s7.heap.get? b = some o → s'.heap.get? b = some o ∧ H' b = none := fun b hb o e =>
        let z := I'.pin (b, o) (List.mem_append_right _ (List.mem_append_right _ (mem_pinsAt hb e)))
        ⟨z.1, z.2.1⟩
      refine ⟨m', hm, i + 1, H', (I'.unpinned (pins := [])).weak (by rw [← hw8, wipe_length]) (fun j v e => ?_), T.keep _ _ _ st7 fun b hb o e => (pin' b hb o e).1, fun b hb => ?_, w'⟩
      · rw [← hw8] at e
        exact (wipe_some e).1
      · obtain ⟨o, e, _⟩ := T.obj _ _ st7 b hb
        exact (pin' b hb o e).2
    cases b with
    | false =>
      simp only [Bool.false_eq_true, if_false] at q9 ⊢
      exact fin I9 q9
    | true =>
      simp only [if_true] at q9 ⊢
      refine thnF (pk.run _ s9 σ8 H9 _ I9 q9) fun z s10 ⟨yk, H10, I10, r10, q10⟩ => ?_
      refine thnF (pe.run _ s10 σ8 H10 _ I10 q10) fun z2 s11 ⟨yv, H11, I11, r11, kvs, k, qk, ek, d11, k11, hd11, hz11, nx⟩ => ?_
      subst ek
      cases (show z = Value.ref qk from r10)
      exact nd_dictSet (X := X.blk s3 H3 scope ce fp) hu I11 d11 k11 hd11 hz11 r11 fun s12 I12 => fin I12 nx
theorem dcN_it {P : Program} {w : World} {J : It} {n : Nat} {G : Hp → Prop} {Y : Nat → Hp → V → Hp → Prop} (wk : Walk J n G Y) {g : TG} {tt : TT} {tk tv : TE} {vs : List Nat} {σ : L2.St} {H1 : Hp} {D : Addr} {Qd : Hp → Prop} (Pv : Nat → Hp → Prop) (h0 : Pv 0 (upd H1 D (NDO P w D []))) (hG : ∀ i H, i ≤ n → Pv i H → G H)
    (hs : ∀ i x H H', i < n → Pv i H → Y i H x H' → g x (wipe σ vs) H' fun σ2 H2 => wipe σ2 vs = wipe σ vs ∧ tt σ2 H2 fun b H3 =>
      if b = true then tk σ2 H3 fun y H4 => tv σ2 H4 fun z H5 => ∃ kvs k q, y = .ref q ∧ DN P w H5 D kvs ∧ KtV H5 (.ref q) k ∧ k.depth ≤ 8 ∧ kvs.length < sizeLine ∧ Pv (i + 1) (upd H5 D (NDO P w D (putN kvs k q z))) else Pv (i + 1) H3) (hd : ∀ H, Pv n H → Qd H) :
    ∃ W : Nat → Nat → Hp → Prop, (∃ m, W 0 m (upd H1 D (NDO P w D []))) ∧ ∀ i m H, W i m H →
      (J.stop i H ∧ Qd H) ∨ (J.go i H ∧ ∃ Nx : Hp → Prop, (∀ H', Nx H' → ∃ m', m' < m ∧ W (i + 1) m' H') ∧ ∀ x H', J.yld i H x H' → g x (wipe σ vs) H' fun σ2 H2 => wipe σ2 vs = wipe σ vs ∧ tt σ2 H2 fun b H3 =>
        if b = true then tk σ2 H3 fun y H4 => tv σ2 H4 fun z H5 => ∃ kvs k q, y = .ref q ∧ DN P w H5 D kvs ∧ KtV H5 (.ref q) k ∧ k.depth ≤ 8 ∧ kvs.length < sizeLine ∧ Nx (upd H5 D (NDO P w D (putN kvs k q z))) else Nx H3) := by
  refine ⟨fun i m H => m = n - i ∧ i ≤ n ∧ Pv i H, ⟨n, rfl, Nat.zero_le _, h0⟩, ?_⟩
  rintro i m H ⟨rfl, hi, p⟩
  have q := hG i H hi p
  by_cases hlt : i < n
  · exact .inr ⟨wk.1 i H hlt q, Pv (i + 1), fun H' p' => ⟨n - (i + 1), by omega, rfl, hlt, p'⟩, fun x H' y => hs i x H H' hlt p (wk.3 i H x H' hlt q y)⟩
  · obtain rfl : i = n := by omega
    exact .inl ⟨wk.2 H q, hd H p⟩
end
end My

set_option Elab.async false
set_option maxRecDepth 100000
set_option maxHeartbeats 4000000
set_option linter.all false
namespace C81
open PySem L2 My M78
abbrev sAll : Stmt := top 31
abbrev nAll : List Str := ["states", "due", "state", "there", "found", "row"]
theorem scAll : FnScope nAll ["states", "due"] (defScope sAll) := ⟨rfl, rfl, rfl, by decide +kernel, rfl, by decide +kernel, by decide +kernel⟩
theorem addrs_of {H : Hp} : ∀ {zs : List V} {ls : List (List Row)}, TpAll H zs (ls.map stD) → ∃ as : List Addr, zs = as.map V.ref ∧ as.length = ls.length ∧ ∀ (i : Nat) (a : Addr) (xs : List Row), as[i]? = some a → ls[i]? = some xs → Tp H (.ref a) (stD xs)
  | [], [], .nil => ⟨[], rfl, rfl, fun i a xs h => by simp at h⟩
  | _, x :: r, .cons h q => by
    obtain ⟨as, e1, e2, e3⟩ := addrs_of (ls := r) q
    obtain ⟨a, us, rfl, _, _⟩ := Tp.ref (ds := x.map rowD) h
    refine ⟨a :: as, by rw [e1]; rfl, by rw [List.length_cons, List.length_cons, e2], fun i b xs hb hx => ?_⟩
    cases i with
    | zero =>
      simp at hb hx
      subst hb hx
      exact h
    | succ i => exact e3 i b xs (by simpa using hb) (by simpa using hx)
theorem nodup_take_not {α : Type} {l : List α} (h : l.Nodup) {i : Nat} {x : α} (hx : l[i]? = some x) : x ∉ l.take i := fun z => by
  obtain ⟨j, hj, e⟩ := List.getElem_of_mem z
  have hjl : j < i := by
    rw [List.length_take] at hj
    omega
  have hj2 : j < l.length := by
    rw [List.length_take] at hj
    omega
  obtain ⟨hi, e2⟩ := List.getElem?_eq_some_iff.mp hx
  rw [List.getElem_take] at e
  exact List.pairwise_iff_getElem.mp h j i hj2 hi hjl (e.trans e2.symm)

def rowsP : List PyData → Option (List Row)
  | [] => some []
  | d :: ds => match rowP d, rowsP ds with
    | some x, some xs => some (x :: xs)
    | _, _ => none
def stP : PyData → Option (List Row)
  | .list ds => rowsP ds
  | .tuple ds => rowsP ds
  | _ => none
theorem stP_sq {d : PyData} {ds : List PyData} (s : Sq2 d ds) : stP d = rowsP ds := by rcases s with rfl | rfl <;> rfl
theorem stP_no {d : PyData} (h : isLT d = false) : stP d = none := by
  cases d <;> first | rfl | cases h
/-- a state of the form -/
def isStD (d : PyData) : Option (List Row) := (stP d).bind fun xs => if xs.all goodR = true then some xs else none
theorem rows_all : ∀ ds : List PyData, (match rowsP ds with | some xs => xs.all goodR | none => false) = ds.all isRowD
  | [] => rfl
  | d :: ds => by
    have ih := rows_all ds
    rw [List.all_cons, ← ih]
    show (match (match rowP d, rowsP ds with | some x, some xs => some (x :: xs) | _, _ => none) with | some xs => xs.all goodR | none => false) = ((match rowP d with | some x => goodR x | none => false) && (match rowsP ds with | some xs => xs.all goodR | none => false))
    generalize rowP d = a
    generalize rowsP ds = b
    cases a <;> cases b <;> simp
theorem isStD_sq {d : PyData} {ds : List PyData} (s : Sq2 d ds) : (isStD d).isSome = ds.all isRowD := by
  rw [← rows_all]
  unfold isStD
  rw [stP_sq s]
  cases rowsP ds with
  | none => rfl
  | some xs =>
    show (if xs.all goodR = true then some xs else none).isSome = xs.all goodR
    cases xs.all goodR <;> rfl
theorem isStD_some {d : PyData} {xs : List Row} (h : isStD d = some xs) : stP d = some xs ∧ xs.all goodR = true := by
  obtain ⟨ys, h1, h2⟩ := Option.bind_eq_some_iff.mp h
  by_cases c : ys.all goodR = true
  · rw [if_pos c] at h2
    cases h2
    exact ⟨h1, c⟩
  · rw [if_neg c] at h2
    cases h2
theorem rowsP_get : ∀ {ds : List PyData} {xs : List Row}, rowsP ds = some xs → xs.length = ds.length ∧ ∀ (j : Nat) (d : PyData), ds[j]? = some d → ∃ x, xs[j]? = some x ∧ rowP d = some x
  | [], xs, h => by
    cases h
    exact ⟨rfl, fun j d e => by simp at e⟩
  | d :: ds, xs, h => by
    have h : (match rowP d, rowsP ds with | some x, some xs => some (x :: xs) | _, _ => none) = some xs := h
    cases h1 : rowP d with
    | none =>
      rw [h1] at h
      cases h
    | some x =>
      cases h2 : rowsP ds with
      | none =>
        rw [h1, h2] at h
        cases h
      | some ys =>
        rw [h1, h2] at h
        cases h
        obtain ⟨l, g⟩ := rowsP_get h2
        refine ⟨by rw [List.length_cons, List.length_cons, l], fun j e he => ?_⟩
        cases j with
        | zero =>
          simp at he
          subst he
          exact ⟨x, rfl, h1⟩
        | succ j => exact g j e (by simpa using he)
theorem row_ax {m : Addr} {H : Hp} {v : V} {d : PyData} {x : Row} (h : Ax m H v d) (e : rowP d = some x) : ∃ a, v = .ref a ∧ Sq H a (rowV x) := by
  obtain ⟨a, us, rfl, _, hs, q⟩ := ax_sq h (rowP_some e)
  refine ⟨a, rfl, ?_⟩
  cases q with
  | cons a0 r0 =>
  cases r0 with
  | cons a1 r1 =>
  cases r1 with
  | cons a2 r2 =>
  cases r2 with
  | cons a3 r3 =>
  cases r3
  cases a0
  cases a1
  cases a2
  cases a3
  exact hs
theorem tp_row {H : Hp} {a : Addr} {x : Row} (e : H a = some (.tup (rowV x))) : Tp H (.ref a) (rowD x) := .tup e (.cons (.int _) (.cons (.bl _) (.cons (.bl _) (.cons (.int _) .nil))))
/-- the states that these are, each once -/
def addS (acc : List (List Row)) (d : PyData) : List (List Row) := match isStD d with
  | some xs => if xs ∈ acc then acc else acc ++ [xs]
  | none => acc
def fnd (ds : List PyData) : List (List Row) := ds.foldl addS []
theorem fnd_snoc (ds : List PyData) (d : PyData) : fnd (ds ++ [d]) = addS (fnd ds) d := by
  unfold fnd
  rw [List.foldl_append]
  rfl
theorem fnd_len (ds : List PyData) : ∀ n, (fnd (ds.take n)).length ≤ n
  | 0 => Nat.le_refl _
  | n + 1 => by
    have ih := fnd_len ds n
    cases e : ds[n]? with
    | none =>
      rw [List.take_add_one, e]
      show (fnd (ds.take n ++ [])).length ≤ _
      rw [List.append_nil]
      omega
    | some d =>
      rw [take_succ' e, fnd_snoc]
      unfold addS
      split
      · split
        · omega
        · rw [List.length_append]
          show _ + 1 ≤ _
          omega
      · omega
def all1 (ls : List (List Row)) (ds : List PyData) : Bool := ds.all (fun d => (isStD d).isSome) && (decide ((fnd ds).length = ls.length) && (fnd ds).all fun xs => decide (xs ∈ ls))
/-- a list of just these states -/
def allD (ls : List (List Row)) : PyData → Bool
  | .list ds => all1 ls ds
  | .tuple ds => all1 ls ds
  | _ => false
theorem allD_no {ls : List (List Row)} {d : PyData} (h : isLT d = false) : allD ls d = false := by
  cases d <;> first | rfl | cases h
theorem allD_sq {ls : List (List Row)} {d : PyData} {ds : List PyData} (s : Sq2 d ds) : allD ls d = all1 ls ds := by rcases s with rfl | rfl <;> rfl
theorem put_old {bs : List BE} {xs : List Row} {a : Addr} {v : V} (hx : xs ∈ bs.map (·.1)) (hv : ∀ b ∈ bs, b.2.2 = v) : putN (bs.map kvB) (sk xs) a v = bs.map kvB := by
  unfold putN
  rw [getB_is, getB_isSome, decide_eq_true hx, if_pos rfl, List.map_map]
  refine List.map_congr_left fun b hb => ?_
  show (if (kvB b).1 = sk xs then ((kvB b).1, (kvB b).2.1, v) else kvB b) = kvB b
  split
  · rw [← hv b hb]
    rfl
  · rfl
section
variable {P : Program} {w : World} {K : PySem.W.Frag} {mg : Str → Option Value} {base : Heap}

def spAll : Sp := fun vs H Q _ => ∃ (x : V) (L2 m : Addr) (o : HO) (zs : List V) (ls : List (List Row)) (d : PyData), vs = [x, .ref L2] ∧ H L2 = some (.lst zs) ∧ H m = some o ∧ NoT H m ∧ Ax m H x d ∧ TpAll H zs (ls.map stD) ∧ ls.Nodup ∧ ls.length ≤ 4100625 ∧ (∀ ds, Sq2 d ds → ds.length ≤ 4100625 ∧ ∀ e ∈ ds, ∀ es, Sq2 e es → es.length ≤ 1000) ∧
  ∀ H', Same H H' → Q (.bl (allD ls d)) H'
theorem pr_all (D' : Df K mg "is_all_of" sAll ["states", "due"]) (T : Ty mg) (PIL : Pr P w K mg base 1 "is_list" ["thing"] spIsLX) (PIR : Pr P w K mg base 2 "is_state_row" ["thing"] spIsR) : Pr P w K mg base 3 "is_all_of" ["states", "due"] spAll := by
  refine D'.pr scAll (fun vs H Q E h => ?_) (fun f cdv A outer s H vs Q E hr h => ?_)
  · obtain ⟨x, L2, m, o, zs, ls, d, rfl, _⟩ := h
    rfl
  · obtain ⟨x, L2, m, o, zs, ls, d, rfl, hL2, hm, nTm, hx, tzs, nod, hlen, hsz, k⟩ := h
    have nd := scAll.nd
    have hr1 := hr.mono (show 1 ≤ 2 by decide)
    refine ⟨_, (pss_cons (ps_if (pt_not (pt_val (pe_callP PIL hr1 (by rfl) (pa_cons (pv 0) pa_nil))))
        (pss_one (ps_ret pe_bl))
        pss_nil)
      (pss_cons (ps_asg (pe_dcN hr.units (own := [("state", 2)]) (g := gName 2) (tt := tYes) (by rfl) nd (pi_list (pv 1)) (blkOk_by (own := [("state", 2)]) (N := nAll) (sc := defScope sAll) (by decide +kernel)) (fun _ _ _ _ _ => pg_name (i := 2) nd rfl (Or.inl rfl) (Or.inr rfl)) (fun _ _ _ _ _ => pts_nil) (fun _ _ _ _ _ => pv 2) (fun _ _ _ _ _ => pe_bl)) (pg_name (i := 3) nd rfl (Or.inr rfl)))
      (pss_cons (ps_asg pe_nnew (pg_name (i := 4) nd rfl (Or.inl rfl)))
      (pss_cons (ps_for PassesOwn.never rfl (pi_sq (pv 0)) (pg_name (i := 2) nd rfl (Or.inl rfl))
        (pss_cons (ps_if (PW.pt (pw_or (pt_not (pt_val (pe_callP PIL hr1 (by rfl) (pa_cons (pv 2) pa_nil)))) (pw_or1 (pt_not (pt_val (pe_callB (cr_all rfl) (by rfl) T.all (by decide +kernel) (pa_cons (pe_lc (own := [("row", 5)]) (g := gName 5) (tt := tYes) (by rfl) nd (pi_sq (pv 2))
  (blkOk_by (own := [("row", 5)]) (N := nAll) (sc := defScope sAll) (by decide +kernel))
  (fun _ _ _ _ _ => pg_name (i := 5) nd rfl (Or.inl rfl) (Or.inr rfl)) (fun _ _ _ _ _ => pts_nil)
  (fun _ _ _ _ _ => (pe_callP PIR hr (by rfl) (pa_cons (pv 5) pa_nil)))) pa_nil)))))))
          (pss_one (ps_ret pe_bl))
          pss_nil)
        (pss_one (ps_nput hr.units (pv 4) (pe_callTy call_tuple_of (by rfl) T.tuple (by decide +kernel) (pa_cons (pe_lc (own := [("row", 5)]) (g := gName 5) (tt := tYes) (te := tCB (rTupOf K) (tCons (tVar 5) tNil)) (by rfl) nd (pi_sq (pv 2))
  (blkOk_by (own := [("row", 5)]) (N := nAll) (sc := defScope sAll) (by decide +kernel))
  (fun _ _ _ _ _ => pg_name (i := 5) nd rfl (Or.inl rfl) (Or.inr rfl)) (fun _ _ _ _ _ => pts_nil)
  (fun _ _ _ _ _ => (pe_callTy call_tuple_of (by rfl) T.tuple (by decide +kernel) (pa_cons (pv 5) pa_nil)))) pa_nil)) pe_bl rfl))))
      (pss_one (ps_ret (pe_and (pe_cmpR op_eq (pe_callB call_lenN (by rfl) T.len PySem.boot_len (pa_cons (pv 4) pa_nil)) (pe_callB call_lenN (by rfl) T.len PySem.boot_len (pa_cons (pv 3) pa_nil)) (nomark _)) (pe_one (pe_callB (cr_all rfl) (by rfl) T.all (by decide +kernel) (pa_cons (pe_lock (pe_lc (own := [("state", 2)]) (g := gName 2) (tt := tYes) (te := tNIn P w (tVar 2) (tVar 3)) (by rfl) nd (pi_keysN (pv 4))
  (blkOk_by (own := [("state", 2)]) (N := nAll) (sc := defScope sAll) (by decide +kernel))
  (fun _ _ _ _ _ => pg_name (i := 2) nd rfl (Or.inl rfl) (Or.inr rfl)) (fun _ _ _ _ _ => pts_nil)
  (fun _ _ _ _ _ => (pe_cmp (pc_nin hr.units (pv 2) (pv 3)) rfl)))) pa_nil)))))))))), ?_⟩
    refine ⟨_, rfl, m, x, d, rfl, hx, fun H1 s1 => ?_⟩
    refine ⟨_, rfl, ?_⟩
    cases hlt : isLT d
    · refine iteT ?_
      rw [← allD_no (ls := ls) hlt]
      exact k _ s1
    obtain ⟨ds, sq⟩ := isLT_sq hlt
    obtain ⟨p, us, rfl, np, hsq, hus⟩ := ax_sq hx sq
    have hlu := hus.length
    obtain ⟨hz1, hz2⟩ := hsz ds sq
    have hall : allD ls d = all1 ls ds := allD_sq sq
    refine iteF ?_
    obtain ⟨as, rfl, las, has⟩ := addrs_of tzs
    -- there
    refine ⟨_, rfl, L2, rfl, ⟨_, SqL.of (s1 _ _ hL2)⟩, fun D nD => ?_⟩
    have hDn : H D = none := Same.free s1 nD
    refine dcN_it (P := P) (w := w) (walk_list (K := K) (a := L2) (xs := as.map V.ref)) (fun i H2 => Same H H2 ∧ ∃ bs : List BE, Sd P w H2 D bs ∧ bs.map (·.1) = ls.take i) ?_ ?_ ?_ ?_
    · refine ⟨Same.tr s1 (same_new nD), [], ⟨upd_same, List.nodup_nil, fun b hb => nomatch hb⟩, ?_⟩
      rw [List.take_zero]
      rfl
    · exact fun i H2 _ q => SqL.of (q.1 _ _ hL2)
    · rintro i y H9 H2 hi ⟨s2, bs, sd, hbs⟩ ⟨rfl, hy⟩
      rw [List.getElem?_map] at hy
      obtain ⟨a, ha, rfl⟩ := Option.map_eq_some_iff.mp hy
      rw [List.length_map] at hi
      obtain ⟨xs, hxs⟩ : ∃ xs, ls[i]? = some xs := ⟨_, List.getElem?_eq_getElem (by omega)⟩
      have ta := (has i a xs ha hxs).mono (.same s2)
      refine ⟨rfl, ?_⟩
      refine ⟨_, rfl, bs.map kvB, sk xs, a, rfl, sd.dn, ta.key, sk_depth xs, ?_, ?_, bs ++ [(xs, a, V.bl true)], ?_, ?_⟩
      · rw [List.length_map, ← List.length_map (f := (·.1)) (as := bs), hbs, List.length_take]
        exact small7 (by omega)
      · intro b u e
        rw [upd_ne (ne_of_none e hDn)]
        exact s2 _ _ e
      · refine sd.push ?_ ta
        rw [hbs]
        exact nodup_take_not nod hxs
      · rw [List.map_append, hbs, take_succ' hxs]
        rfl
    · rintro H2 ⟨s2, bsT, sdT, hbsT⟩
      rw [List.length_map, las, List.take_length] at hbsT
      -- found
      intro F nF
      generalize hF : upd H2 F _ = H3
      have s3 : Same H2 H3 := hF ▸ Same.new nF
      have eF : H3 F = some (NDO P w F []) := hF ▸ upd_same
      clear hF
      have hFn : H F = none := Same.free s2 nF
      have s13 := Same.tr s2 s3
      have nFD : F ≠ D := Ne.symm (ne_of_none sdT.dict nF)
      refine isq (a := p) (us := us) (fun Q q => ⟨_, rfl, q⟩) (hsq.same s13) (fun J G W hG => ?_)
      refine for_it W (fun i σ H4 => ∃ (o2 o5 : Option V) (bf : List BE), σ = [some (.ref p), some (.ref L2), o2, some (.ref D), some (.ref F), o5] ∧ Same H H4 ∧ Sd P w H4 D bsT ∧ Sd P w H4 F bf ∧ bf.map (·.1) = fnd (ds.take i) ∧ (∀ b ∈ bf, b.2.2 = .bl true) ∧ (ds.take i).all (fun d => (isStD d).isSome) = true) ?_ ?_ ?_ ?_
      · exact ⟨_, _, [], rfl, s13, sdT.same s3, ⟨eF, List.nodup_nil, fun b hb => nomatch hb⟩, rfl, (fun b hb => nomatch hb), rfl⟩
      · rintro i σ H4 _ ⟨o2, o5, bf, _, s4, _⟩
        refine hG _ fun o e => ?_
        rcases hsq with q | q
        · rw [s13 _ _ q] at e
          cases e
          exact s4 _ _ q
        · rw [s13 _ _ q] at e
          cases e
          exact s4 _ _ q
      · rintro i y σ H9 H4 hi ⟨o2, o5, bf, rfl, s4, sd4, sf4, hbf, hv, hal⟩ ⟨e9, ey⟩
        subst e9
        obtain ⟨dx, e1, ax⟩ := hus.get ey
        have tk : ds.take (i + 1) = ds.take i ++ [dx] := take_succ' e1
        have ax4 := ax.mono (Same.but (m := m) s4)
        have ret : (isStD dx).isSome = false → ∀ H', Same H4 H' → Q (.bl false) H' := fun e H' s' => by
          have : allD ls d = false := by
            rw [hall]
            unfold all1
            rw [List.all_eq_false.mpr ⟨dx, List.mem_of_getElem? e1, by rw [e]; decide⟩]
            rfl
          rw [← this]
          exact k _ (Same.tr s4 s')
        refine ⟨_, rfl, m, y, dx, rfl, ax4, fun H5 s5 => ?_⟩
        refine ⟨_, rfl, ?_⟩
        cases hl2 : isLT dx
        · refine iteT (iteT ?_)
          exact ret (by unfold isStD; rw [stP_no hl2]; rfl) _ s5
        refine iteF ?_
        obtain ⟨rs, sq2⟩ := isLT_sq hl2
        obtain ⟨a, vs, rfl, na, hsa, hvs⟩ := ax_sq ax4 sq2
        have lvs := hvs.length
        have hlr : rs.length ≤ 1000 := hz2 dx (List.mem_of_getElem? e1) rs sq2
        -- all([is_state_row(row) ..])
        refine isq (a := a) (us := vs) (fun Q q => ⟨_, rfl, q⟩) (hsa.same s5) (fun J1 G1 W1 hG1 => fun Dl hDl => ?_)
        refine lc_it W1 (fun j H6 => Same H5 H6 ∧ H6 Dl = some (.lst (((rs.take j).map isRowD).map V.bl))) ?_ ?_ ?_ ?_
        · exact ⟨same_new hDl, upd_same⟩
        · exact fun j H6 _ q => hG1 _ (fun _ e => q.1 _ _ e)
        · rintro j u H8 H6 hj ⟨s6, hl6⟩ ⟨e8, eu⟩
          subst e8
          obtain ⟨dr, er, ar⟩ := hvs.get eu
          refine ⟨rfl, ?_⟩
          refine ⟨_, rfl, m, u, dr, rfl, ar.mono (Same.but (m := m) (Same.tr s5 s6)), fun H7 s7 => ?_⟩
          refine ⟨_, s7 _ _ hl6, ?_, ?_, ?_⟩
          · rw [List.length_map, List.length_map, List.length_take]
            exact small6 (by omega)
          · intro b u e
            rw [upd_ne (ne_of_none e hDl)]
            exact s7 _ _ (s6 _ _ e)
          · rw [upd_same, take_succ' er, List.map_append, List.map_append]
            rfl
        · rintro H6 ⟨s6, hl6⟩
          rw [lvs, List.take_length] at hl6
          refine ⟨_, _, rfl, SqL.of hl6, ?_⟩
          refine ⟨_, rfl, ?_⟩
          have ea : (rs.map isRowD).all id = (isStD dx).isSome := by
            rw [isStD_sq sq2, List.all_map]
            rfl
          rw [ea]
          have s46 := Same.tr s5 s6
          cases hst : (isStD dx).isSome
          · refine iteT ?_
            exact ret hst _ s46
          refine iteF ?_
          obtain ⟨xs, hxs⟩ := Option.isSome_iff_exists.mp hst
          obtain ⟨st, good⟩ := isStD_some hxs
          rw [stP_sq sq2] at st
          obtain ⟨lxs, gt⟩ := rowsP_get st
          -- found[tuple(..)] = True
          refine ⟨_, rfl, ?_⟩
          refine isq (a := a) (us := vs) (fun Q q => ⟨_, rfl, q⟩) (hsa.same s46) (fun J3 G3 W3 hG3 => fun Dm hDm => ?_)
          refine lc_it W3 (fun j H7 => Same H6 H7 ∧ ∃ zs, H7 Dm = some (.lst zs) ∧ zs.length = j ∧ TpAll H7 zs ((xs.take j).map rowD)) ?_ ?_ ?_ ?_
          · exact ⟨same_new hDm, [], upd_same, rfl, .nil⟩
          · exact fun j H7 _ q => hG3 _ (fun _ e => q.1 _ _ e)
          · rintro j u H8 H7 hj ⟨s7, zs, hl7, lz, tz⟩ ⟨e8, eu⟩
            subst e8
            obtain ⟨dr, er, ar⟩ := hvs.get eu
            obtain ⟨x, hx, hrp⟩ := gt j dr er
            obtain ⟨R, rfl, hR⟩ := row_ax ar hrp
            have s47 := Same.tr s46 s7
            refine ⟨rfl, ?_⟩
            refine ⟨_, rfl, ?_⟩
            dsimp only [tNil]
            have fin : ∀ (q : Addr) (H8 : Hp), Same H7 H8 → H8 q = some (.tup (rowV x)) → ∃ acc, H8 Dm = some (.lst acc) ∧ acc.length < sizeLine ∧ Same H6 (upd H8 Dm (.lst (acc ++ [.ref q]))) ∧ ∃ zs, upd H8 Dm (.lst (acc ++ [.ref q])) Dm = some (.lst zs) ∧ zs.length = j + 1 ∧ TpAll (upd H8 Dm (.lst (acc ++ [.ref q]))) zs ((xs.take (j + 1)).map rowD) := fun q H8 s8 hq => by
              have hl8 := s8 _ _ hl7
              refine ⟨zs, hl8, small6 (by omega), fun b u e => ?_, zs ++ [.ref q], upd_same, by rw [List.length_append, lz]; rfl, ?_⟩
              · rw [upd_ne (ne_of_none e hDm)]
                exact s8 _ _ (s7 _ _ e)
              · rw [take_succ' hx, List.map_append]
                exact ((tz.mono (.same s8)).append (tp_row hq)).mono (.lst hl8)
            rcases hR with hq | hq
            · exact ⟨_, _, rfl, .inl ⟨SqL.of (s47 _ _ hq), fun l hl => fin l _ (same_new hl) upd_same⟩⟩
            · exact ⟨_, _, rfl, .inr ⟨SqT.of (s47 _ _ hq), fin R _ (fun _ _ e => e) (s47 _ _ hq)⟩⟩
          · rintro H7 ⟨s7, zs, hl7, lz, tz⟩
            rw [show vs.length = xs.length by omega, List.take_length] at tz
            refine ⟨_, _, rfl, .inl ⟨SqL.of hl7, fun p8 np8 => ?_⟩⟩
            generalize hp8 : upd H7 p8 _ = H8
            have s8 : Same H7 H8 := hp8 ▸ Same.new np8
            have e8 : H8 p8 = some (.tup zs) := hp8 ▸ upd_same
            clear hp8
            have s48 := Same.tr s46 (Same.tr s7 s8)
            have t8 : Tp H8 (.ref p8) (stD xs) := .tup e8 (tz.mono (.same s8))
            have sf8 := sf4.same s48
            have sd8 := sd4.same s48
            have room : (bf.map kvB).length < sizeLine := by
              have := fnd_len ds i
              rw [List.length_map, ← List.length_map (f := (·.1)) (as := bf), hbf]
              exact small7 (by omega)
            have hal' : (ds.take (i + 1)).all (fun d => (isStD d).isSome) = true := by
              rw [tk, List.all_append, hal, List.all_cons, hst]
              rfl
            have hnx : fnd (ds.take (i + 1)) = if xs ∈ fnd (ds.take i) then fnd (ds.take i) else fnd (ds.take i) ++ [xs] := by
              rw [tk, fnd_snoc]
              unfold addS
              rw [hxs]
            refine ⟨bf.map kvB, sk xs, F, p8, sf8.key t8, room, ?_⟩
            by_cases hxb : xs ∈ bf.map (·.1)
            · rw [put_old hxb hv]
              refine ⟨_, _, bf, rfl, fun b u e => ?_, ?_, sf8.mono upd_same (KeepT.ext sf8.dict), ?_, hv, hal'⟩
              · rw [upd_ne (ne_of_none e hFn)]
                exact s48 _ _ (s4 _ _ e)
              · exact sd8.mono (by rw [upd_ne (Ne.symm nFD)]; exact sd8.dict) (KeepT.ext sf8.dict)
              · rw [hnx, ← hbf, if_pos hxb]
            · refine ⟨_, _, bf ++ [(xs, p8, V.bl true)], rfl, fun b u e => ?_, ?_, sf8.push hxb t8, ?_, ?_, hal'⟩
              · rw [upd_ne (ne_of_none e hFn)]
                exact s48 _ _ (s4 _ _ e)
              · exact sd8.mono (by rw [upd_ne (Ne.symm nFD)]; exact sd8.dict) (KeepT.ext sf8.dict)
              · rw [hnx, ← hbf, if_neg hxb, List.map_append]
                rfl
              · intro b hb
                rcases List.mem_append.mp hb with hb | hb
                · exact hv b hb
                · rw [List.mem_singleton.mp hb]
      · rintro σ H4 ⟨o2, o5, bf, rfl, s4, sd4, sf4, hbf, hv, hal⟩
        rw [hlu, List.take_length] at hbf hal
        have l1 : (bf.map kvB).length = (fnd ds).length := by rw [List.length_map, ← List.length_map (f := (·.1)) (as := bf), hbf]
        have l2 : (bsT.map kvB).length = ls.length := by rw [List.length_map, ← List.length_map (f := (·.1)) (as := bsT), hbsT]
        have lf := fnd_len ds ds.length
        rw [List.take_length] at lf
        refine ⟨_, rfl, F, _, rfl, sf4.dn, _, rfl, D, _, rfl, sd4.dn, rfl, ?_⟩
        rw [l1, l2, vint]
        have hall2 : allD ls d = (decide ((fnd ds).length = ls.length) && (fnd ds).all fun xs => decide (xs ∈ ls)) := by
          rw [hall]
          unfold all1
          rw [hal, Bool.true_and]
        by_cases hc : (fnd ds).length = ls.length
        case neg =>
          rw [decide_eq_false (show ¬ (((fnd ds).length : Int) = (ls.length : Int)) by omega)]
          refine ⟨_, rfl, iteF ?_⟩
          rw [show false = allD ls d by rw [hall2, decide_eq_false hc]; rfl]
          exact k _ s4
        rw [decide_eq_true (show ((fnd ds).length : Int) = (ls.length : Int) by omega)]
        rw [decide_eq_true hc, Bool.true_and] at hall2
        refine ⟨_, rfl, iteT ?_⟩
        refine ⟨F, NDO P w F (bf.map kvB), sf4.dict, True.intro, fun od => ?_⟩
        generalize hF5 : upd H4 F _ = H5
        have k5 : KeepT H4 H5 := hF5 ▸ KeepT.ext sf4.dict
        have eF5 : H5 F = some (.frz od (NDO P w F (bf.map kvB))) := hF5 ▸ upd_same
        have sd5 : Sd P w H5 D bsT := sd4.mono (by rw [← hF5, upd_ne (Ne.symm nFD)]; exact sd4.dict) k5
        have s5 : Same H H5 := fun b u e => by
          rw [← hF5, upd_ne (ne_of_none e hFn)]
          exact s4 _ _ e
        clear hF5
        refine ⟨_, rfl, F, od, bf.map kvB, rfl, eF5, fun Dl hDl => ?_⟩
        refine lc_it (walk_keysN (P := P) (w := w) (d := F) (o := od) (kvs := bf.map kvB)) (fun j H6 => Same H5 H6 ∧ H6 Dl = some (.lst (((bf.take j).map fun b => decide (b.1 ∈ ls)).map V.bl))) ?_ ?_ ?_ ?_
        · exact ⟨same_new hDl, upd_same⟩
        · exact fun j H6 _ q => q.1 _ _ eF5
        · rintro j u H9 H6 hj ⟨s6, hl6⟩ ⟨e9, e, he, rfl⟩
          subst e9
          rw [List.getElem?_map] at he
          obtain ⟨b, hb, rfl⟩ := Option.map_eq_some_iff.mp he
          have hbm := List.mem_of_getElem? hb
          have tb := ((sf4.tp b hbm).mono k5).mono (.same s6)
          have sd6 := sd5.same s6
          refine ⟨rfl, ?_⟩
          refine ⟨_, rfl, _, rfl, bsT.map kvB, sk b.1, D, b.2.1, sd6.key tb, ?_⟩
          rw [getB_is, getB_isSome, hbsT]
          refine ⟨_, hl6, ?_, ?_, ?_⟩
          · rw [List.length_map, List.length_map, List.length_take]
            rw [List.length_map] at hj l1
            exact small7 (by omega)
          · intro b u e
            rw [upd_ne (ne_of_none e hDl)]
            exact s6 _ _ e
          · rw [upd_same, take_succ' hb, List.map_append, List.map_append]
            rfl
        · rintro H6 ⟨s6, hl6⟩
          refine ⟨s6 _ _ eF5, ?_⟩
          have nDlF : Dl ≠ F := Ne.symm (ne_of_none eF5 hDl)
          rw [List.length_map, List.take_length] at hl6
          refine ⟨_, _, rfl, SqL.of (show upd H6 F (NDO P w F (bf.map kvB)) Dl = _ by rw [upd_ne nDlF]; exact hl6), ?_⟩
          have : (bf.map fun b => decide (b.1 ∈ ls)).all id = allD ls d := by
            rw [hall2, ← hbf, List.all_map, List.all_map]
            rfl
          rw [this]
          refine k _ fun b u e => ?_
          rw [upd_ne (ne_of_none e hFn)]
          exact s6 _ _ (s5 _ _ e)
end
end C81

set_option Elab.async false
set_option maxRecDepth 100000
set_option maxHeartbeats 4000000
set_option linter.all false
namespace C81
open PySem L2 My M78
abbrev sNev : Stmt := top 32
abbrev nNev : List Str := ["scripts", "states", "word", "due"]
theorem scNev : FnScope nNev ["scripts", "states"] (defScope sNev) := ⟨rfl, rfl, rfl, by decide +kernel, rfl, by decide +kernel, by decide +kernel⟩
abbrev sFre : Stmt := top 33
abbrev nFre : List Str := ["scripts", "states", "word", "due"]
theorem scFre : FnScope nFre ["scripts", "states"] (defScope sFre) := ⟨rfl, rfl, rfl, by decide +kernel, rfl, by decide +kernel, by decide +kernel⟩

/-- a state's rows are within the bounds -/
def Bnd (xs : List Row) : Prop := ∀ r ∈ xs, 0 ≤ r.p ∧ r.p ≤ 8 ∧ 0 ≤ r.l ∧ r.l ≤ 4
theorem bfs_stable {ss : List (List Wd)} {tr : Bool} {N : Nat} (h : (bfs ss tr N).length ≤ N) : ∀ j, bfs ss tr (N + j) = bfs ss tr N
  | 0 => rfl
  | j + 1 => by
    have ih := bfs_stable h j
    show (match (bfs ss tr (N + j))[N + j]? with | some x => expN ss tr x (bfs ss tr (N + j)) (wt ss x.s) | none => bfs ss tr (N + j)) = _
    rw [ih, List.getElem?_eq_none (by omega)]
theorem bfs_mono {ss : List (List Wd)} {tr : Bool} (n : Nat) : ∀ j, ∃ t, bfs ss tr (n + j) = bfs ss tr n ++ t
  | 0 => ⟨[], (List.append_nil _).symm⟩
  | j + 1 => by
    obtain ⟨t, ht⟩ := bfs_mono (ss := ss) (tr := tr) n j
    obtain ⟨t', ht'⟩ := bfs_pre ss tr (n + j)
    exact ⟨t ++ t', by rw [← Nat.add_assoc, ht', ht, List.append_assoc]⟩
theorem bfs_same {ss : List (List Wd)} {tr : Bool} {N M : Nat} (hN : (bfs ss tr N).length ≤ N) (hM : (bfs ss tr M).length ≤ M) : bfs ss tr N = bfs ss tr M := by
  have h1 := bfs_stable hN M
  have h2 := bfs_stable hM N
  rw [Nat.add_comm] at h2
  exact h1.symm.trans h2
/-- what is found at any time is found in the end -/
theorem bfs_sub {ss : List (List Wd)} {tr : Bool} {N n : Nat} (hN : (bfs ss tr N).length ≤ N) : ∃ t, bfs ss tr N = bfs ss tr n ++ t := by
  rcases Nat.le_total n N with h | h
  · obtain ⟨t, ht⟩ := bfs_mono (ss := ss) (tr := tr) n (N - n)
    rw [show n + (N - n) = N by omega] at ht
    exact ⟨t, ht⟩
  · have := bfs_stable hN (n - N)
    rw [show N + (n - N) = n by omega] at this
    exact ⟨[], by rw [this, List.append_nil]⟩
theorem srt_states (es : List Nd) : ∃ ls : List (List Row), srtD (stsD es) = ls.map stD ∧ ls.Perm (es.map Nd.s) := by
  refine ⟨(es.map Nd.s).mergeSort (fun a b => tokLe (stD a) (stD b)), ?_, List.mergeSort_perm _ _⟩
  have e := PySem.W.sort_maps (r := fun a b => tokLe (stD a) (stD b)) (s := tokLe) stD (l := es.map Nd.s) (fun _ _ _ _ => rfl)
  rw [e, List.map_map]
  rfl
theorem SI.bnd' {ss : List (List Wd)} {xs : List Row} (h : SI ss xs) (ok : ∀ sc ∈ ss, okScr sc) : Bnd xs := fun x hx => by
  obtain ⟨i, hi, e⟩ := List.getElem_of_mem hx
  obtain ⟨sc, e1, p, hp, hle, _, _, h0, h4, _⟩ := paired_get h (i := i) (y := x) (by rw [List.getElem?_eq_getElem hi, e])
  have := (ok sc (List.mem_of_getElem? e1)).1
  omega

/-- a list of states is not too long -/
def SmallS (d : PyData) : Prop := ∀ ds, Sq2 d ds → ds.length ≤ 4100625 ∧ ∀ e ∈ ds, ∀ es, Sq2 e es → es.length ≤ 1000
/-- nothing bad is found, and these are all that is found -/
def endB (ss : List (List Wd)) (tr : Bool) (bad : List Row → Bool) (N : Nat) (d : PyData) : Bool := ((bfs ss tr N).all fun e => !bad e.s) && allD ((bfs ss tr N).map Nd.s) d
theorem all1_perm {ls js : List (List Row)} (p : ls.Perm js) (ds : List PyData) : all1 js ds = all1 ls ds := by
  unfold all1
  rw [p.length_eq]
  have : (fun xs : List Row => decide (xs ∈ js)) = fun xs => decide (xs ∈ ls) := funext fun xs => decide_eq_decide.mpr p.mem_iff.symm
  rw [this]
theorem allD_perm {ls js : List (List Row)} (p : ls.Perm js) (d : PyData) : allD js d = allD ls d := by
  cases d with
  | list ds => exact all1_perm p ds
  | tuple ds => exact all1_perm p ds
  | _ => rfl
section
variable {P : Program} {w : World} {K : PySem.W.Frag} {mg : Str → Option Value} {base : Heap}

def spNev : Sp := fun vs H Q _ => ∃ (m A : Addr) (x : V) (o : HO) (ss : List (List Wd)) (d sd : PyData) (N : Nat), vs = [.ref A, x] ∧ H m = some o ∧ NoT H m ∧ At m H (.ref A) d ∧ ScIn ss d ∧ Ok4 ss ∧ Ax m H x sd ∧ SmallS sd ∧ (bfs ss false N).length ≤ N ∧ ∀ H', Same H H' → Q (.bl (endB ss false (rfd ss) N sd)) H'
theorem pr_nev (D' : Df K mg "is_never" sNev ["scripts", "states"]) (PRf : Pr P w K mg base 5 "refusal" ["scripts"] spRfs) (PAl : Pr P w K mg base 3 "is_all_of" ["states", "due"] spAll) : Pr P w K mg base 6 "is_never" ["scripts", "states"] spNev := by
  refine D'.pr scNev (fun vs H Q E h => ?_) (fun f cdv A outer s H vs Q E hr h => ?_)
  · obtain ⟨m, A, x, o, ss, d, sd, N, rfl, _⟩ := h
    rfl
  · obtain ⟨m, A, x, o, ss, d, sd, N, rfl, hm, nTm, hA, hin, ok4, hx, sms, hN, k⟩ := h
    have nd := scNev.nd
    have hr3 := hr.mono (show 3 ≤ 5 by decide)
    refine ⟨_, (pss_cons (ps_asg (pe_callP PRf hr (by rfl) (pa_cons (pv 0) pa_nil)) (pg_tup rfl (pgs_cons (pg_name (i := 2) nd rfl (Or.inl rfl)) (pgs_cons (pg_name (i := 3) nd rfl (Or.inl rfl)) pgs_nil))))
      (pss_one (ps_ret (pe_and (pe_cmpR op_eq (pv 2) pe_str (nomark _)) (pe_one (pe_callP PAl hr3 (by rfl) (pa_cons (pv 1) (pa_cons (pv 3) pa_nil)))))))), ?_⟩
    refine ⟨_, rfl, m, A, o, ss, d, hm, rfl, hA, hin, ok4, fun q H1 s1 told => ?_⟩
    rcases told with ⟨L2, zs, M, hq, nL2, hL2, hM, hall, tzs⟩ | ⟨O, n, e, ks, kk, hq, hO, he, _, hkw, href, _⟩
    · refine ⟨_, _, rfl, SqT.of hq, rfl, _, _, rfl, _, _, rfl, rfl, ?_⟩
      refine ⟨_, rfl, rfl, ?_⟩
      rw [decide_eq_true rfl]
      refine ⟨_, rfl, iteT ?_⟩
      rw [bfs_same hM hN] at tzs hall
      obtain ⟨ls, els, pls⟩ := srt_states (bfs ss false N)
      rw [els] at tzs
      have inv := bfs_inv (tr := false) ok4.ok N
      have hm1 := s1 _ _ hm
      have nT1 : NoT H1 m := fun ws z => by
        rw [hm1] at z
        exact nTm ws (by rw [hm]; exact z)
      refine ⟨_, rfl, _, rfl, x, L2, m, o, zs, ls, sd, rfl, hL2, hm1, nT1, hx.mono (Same.but (m := m) s1), tzs, pls.nodup_iff.mpr inv.nodup, ?_, sms, fun H' s' => ?_⟩
      · rw [pls.length_eq, List.length_map]
        have := inv.len
        have := bnd_small ok4
        omega
      · have : endB ss false (rfd ss) N sd = allD ls sd := by
          unfold endB
          rw [allD_perm pls sd]
          rw [show ((bfs ss false N).all fun e => !(rfd ss e.s)) = true from List.all_eq_true.mpr fun e he => by rw [hall e he]; rfl, Bool.true_and]
        rw [← this]
        exact k H' (Same.tr s1 s')
    · refine ⟨_, _, rfl, SqT.of hq, rfl, _, _, rfl, _, _, rfl, rfl, ?_⟩
      refine ⟨_, rfl, rfl, ?_⟩
      rw [show decide (V.str (Str.ofString "order") = V.str (Str.ofString "never")) = false from by decide]
      refine ⟨_, rfl, iteF ?_⟩
      obtain ⟨t, ht⟩ := bfs_sub (n := n) hN
      have hem : e ∈ bfs ss false N := by
        rw [ht]
        exact List.mem_append_left _ (List.mem_of_getElem? he)
      have hb : rfd ss e.s = true := by
        unfold rfd
        exact List.any_eq_true.mpr ⟨kk, hkw, href⟩
      have : endB ss false (rfd ss) N sd = false := by
        unfold endB
        rw [List.all_eq_false.mpr ⟨e, hem, by rw [hb]; decide⟩]
        rfl
      rw [← this]
      exact k _ s1

def spFre : Sp := fun vs H Q _ => ∃ (m A : Addr) (x : V) (o : HO) (ss : List (List Wd)) (d sd : PyData) (N : Nat), vs = [.ref A, x] ∧ H m = some o ∧ NoT H m ∧ At m H (.ref A) d ∧ ScIn ss d ∧ Ok4 ss ∧ Ax m H x sd ∧ SmallS sd ∧ (bfs ss true N).length ≤ N ∧ ∀ H', Same H H' → Q (.bl (endB ss true (stk ss) N sd)) H'
theorem pr_fre (D' : Df K mg "is_free" sFre ["scripts", "states"]) (PRf : Pr P w K mg base 6 "stuck" ["scripts"] spStk) (PAl : Pr P w K mg base 3 "is_all_of" ["states", "due"] spAll) : Pr P w K mg base 7 "is_free" ["scripts", "states"] spFre := by
  refine D'.pr scFre (fun vs H Q E h => ?_) (fun f cdv A outer s H vs Q E hr h => ?_)
  · obtain ⟨m, A, x, o, ss, d, sd, N, rfl, _⟩ := h
    rfl
  · obtain ⟨m, A, x, o, ss, d, sd, N, rfl, hm, nTm, hA, hin, ok4, hx, sms, hN, k⟩ := h
    have nd := scFre.nd
    have hr3 := hr.mono (show 3 ≤ 6 by decide)
    refine ⟨_, (pss_cons (ps_asg (pe_callP PRf hr (by rfl) (pa_cons (pv 0) pa_nil)) (pg_tup rfl (pgs_cons (pg_name (i := 2) nd rfl (Or.inl rfl)) (pgs_cons (pg_name (i := 3) nd rfl (Or.inl rfl)) pgs_nil))))
      (pss_one (ps_ret (pe_and (pe_cmpR op_eq (pv 2) pe_str (nomark _)) (pe_one (pe_callP PAl hr3 (by rfl) (pa_cons (pv 1) (pa_cons (pv 3) pa_nil)))))))), ?_⟩
    refine ⟨_, rfl, m, A, o, ss, d, hm, rfl, hA, hin, ok4, fun q H1 s1 told => ?_⟩
    rcases told with ⟨L2, zs, M, hq, nL2, hL2, hM, hall, tzs⟩ | ⟨O, n, e, ks, hq, hO, he, _, hbad, _⟩
    · refine ⟨_, _, rfl, SqT.of hq, rfl, _, _, rfl, _, _, rfl, rfl, ?_⟩
      refine ⟨_, rfl, rfl, ?_⟩
      rw [decide_eq_true rfl]
      refine ⟨_, rfl, iteT ?_⟩
      rw [bfs_same hM hN] at tzs hall
      obtain ⟨ls, els, pls⟩ := srt_states (bfs ss true N)
      rw [els] at tzs
      have inv := bfs_inv (tr := true) ok4.ok N
      have hm1 := s1 _ _ hm
      have nT1 : NoT H1 m := fun ws z => by
        rw [hm1] at z
        exact nTm ws (by rw [hm]; exact z)
      refine ⟨_, rfl, _, rfl, x, L2, m, o, zs, ls, sd, rfl, hL2, hm1, nT1, hx.mono (Same.but (m := m) s1), tzs, pls.nodup_iff.mpr inv.nodup, ?_, sms, fun H' s' => ?_⟩
      · rw [pls.length_eq, List.length_map]
        have := inv.len
        have := bnd_small ok4
        omega
      · have : endB ss true (stk ss) N sd = allD ls sd := by
          unfold endB
          rw [allD_perm pls sd]
          rw [show ((bfs ss true N).all fun e => !(stk ss e.s)) = true from List.all_eq_true.mpr fun e he => by rw [hall e he]; rfl, Bool.true_and]
        rw [← this]
        exact k H' (Same.tr s1 s')
    · refine ⟨_, _, rfl, SqT.of hq, rfl, _, _, rfl, _, _, rfl, rfl, ?_⟩
      refine ⟨_, rfl, rfl, ?_⟩
      rw [show decide (V.str (Str.ofString "order") = V.str (Str.ofString "never")) = false from by decide]
      refine ⟨_, rfl, iteF ?_⟩
      obtain ⟨t, ht⟩ := bfs_sub (n := n) hN
      have hem : e ∈ bfs ss true N := by
        rw [ht]
        exact List.mem_append_left _ (List.mem_of_getElem? he)
      have hb : stk ss e.s = true := hbad
      have : endB ss true (stk ss) N sd = false := by
        unfold endB
        rw [List.all_eq_false.mpr ⟨e, hem, by rw [hb]; decide⟩]
        rfl
      rw [← this]
      exact k _ s1
end
end C81

set_option Elab.async false
set_option maxRecDepth 100000
set_option maxHeartbeats 4000000
set_option linter.all false
namespace C81
open PySem L2 My M78
abbrev sSto : Stmt := top 53
abbrev nSto : List Str := ["_law_thing", "_law_row", "_law_part"]
theorem scSto : FnScope nSto ["_law_thing"] (defScope sSto) := ⟨rfl, rfl, rfl, by decide +kernel, rfl, by decide +kernel, by decide +kernel⟩

def isID (d : PyData) : Bool := (intD d).isSome || (bolD d).isSome
theorem k_id (d : PyData) : kitB (tyS d) "int" = some (isID d) := by
  cases d
  · exact k_NoneType_int
  · exact k_bool_int
  · exact k_int_int
  · exact k_str_int
  · exact k_list_int
  · exact k_tuple_int
  · exact k_dict_int
theorem eqv_bools : ∀ as bs : List Bool, PyData.eqv (.list (boolD as)) (.list (boolD bs)) = decide (as = bs) := by
  have key : ∀ as bs : List Bool, PyData.eqvAll (boolD as) (boolD bs) = decide (as = bs) := by
    intro as
    induction as with
    | nil => intro bs; cases bs <;> rfl
    | cons a as ih =>
      intro bs
      cases bs with
      | nil => rfl
      | cons b bs =>
        show (PyData.eqv (.bool a) (.bool b) && PyData.eqvAll (boolD as) (boolD bs)) = _
        rw [ih, show PyData.eqv (.bool a) (.bool b) = decide (a = b) by cases a <;> cases b <;> rfl, ← Bool.decide_and]
        exact decide_eq_decide.mpr List.cons_eq_cons.symm
  exact key
theorem int_xor (d : PyData) : (intD d).isSome = (isID d && !isBD d) := by
  cases d <;> rfl
theorem row4_is (a b c d : PyData) : (row4 [a, b, c, d]).isSome = ([a, b, c, d].all isID && decide ([isBD a, isBD b, isBD c, isBD d] = [false, true, true, false])) := by
  have e : (row4 [a, b, c, d]).isSome = ((intD a).isSome && (bolD b).isSome && (bolD c).isSome && (intD d).isSome) := by
    unfold row4
    dsimp only
    generalize intD a = ia
    generalize bolD b = ib
    generalize bolD c = ic
    generalize intD d = id
    cases ia <;> cases ib <;> cases ic <;> cases id <;> rfl
  have hb : isBD b = (bolD b).isSome := rfl
  have hc : isBD c = (bolD c).isSome := rfl
  have ib : isID b = ((intD b).isSome || isBD b) := rfl
  have ic : isID c = ((intD c).isSome || isBD c) := rfl
  rw [e, int_xor a, int_xor d, ← hb, ← hc]
  show _ = ((isID a && (isID b && (isID c && (isID d && true)))) && _)
  rw [ib, ic]
  generalize isBD a = x1
  generalize isBD b = x2
  generalize isBD c = x3
  generalize isBD d = x4
  generalize isID a = y1
  generalize isID d = y4
  generalize (intD b).isSome = z2
  generalize (intD c).isSome = z3
  cases x1 <;> cases x2 <;> cases x3 <;> cases x4 <;> cases y1 <;> cases y4 <;> cases z2 <;> cases z3 <;> rfl
theorem rowP_no {d : PyData} (h : isLT d = false) : rowP d = none := by
  cases d <;> first | rfl | cases h
theorem rowsP_bad {d : PyData} (h : rowP d = none) : ∀ {ds : List PyData}, d ∈ ds → rowsP ds = none
  | e :: ds, hm => by
    show (match rowP e, rowsP ds with | some x, some xs => some (x :: xs) | _, _ => none) = none
    rcases List.mem_cons.mp hm with rfl | hm
    · rw [h]
    · rw [rowsP_bad h hm]
      cases rowP e <;> rfl
theorem rowsP_ok : ∀ {ds : List PyData}, (∀ d ∈ ds, (rowP d).isSome = true) → (rowsP ds).isSome = true
  | [], _ => rfl
  | d :: ds, h => by
    obtain ⟨x, e⟩ := Option.isSome_iff_exists.mp (h d (.head _))
    obtain ⟨xs, e2⟩ := Option.isSome_iff_exists.mp (rowsP_ok (ds := ds) fun y hy => h y (.tail _ hy))
    show (match rowP d, rowsP ds with | some x, some xs => some (x :: xs) | _, _ => none).isSome = true
    rw [e, e2]
    rfl
section
variable {P : Program} {w : World} {K : PySem.W.Frag} {mg : Str → Option Value} {base : Heap}

/-- the state that this is, or None -/
def spSto : Sp := fun vs H Q _ => ∃ (m : Addr) (o : HO) (x : V) (d : PyData), vs = [x] ∧ H m = some o ∧ Ax m H x d ∧ (∀ ds, Sq2 d ds → ds.length ≤ 1000) ∧
  (∀ xs, stP d = some xs → ∀ (q : Addr) (H' : Hp), Same H H' → q ≠ m → Tp H' (.ref q) (stD xs) → Q (.ref q) H') ∧ (stP d = none → ∀ H', Same H H' → Q .non H')
theorem pr_sto (D' : Df K mg "_law_state_of" sSto ["_law_thing"]) (T : Ty mg) : Pr P w K mg base 1 "_law_state_of" ["_law_thing"] spSto := by
  refine D'.pr scSto (fun vs H Q E h => ?_) (fun f cdv A outer s H vs Q E hr h => ?_)
  · obtain ⟨m, o, x, d, rfl, _⟩ := h
    rfl
  · obtain ⟨m, o, x, d, rfl, hm, hx, hsz, k, kN⟩ := h
    have nd := scSto.nd
    refine ⟨_, (pss_cons (ps_if (pt_not (pt_val (pe_callB call_isiT (by rfl) T.isinstance (by decide +kernel) (pa_cons (pv 0) (pa_cons (pe_tup (pa_cons (pe_bltn (v := .ty "list") (by rfl) T.list (by decide +kernel) rfl) (pa_cons (pe_bltn (v := .ty "tuple") (by rfl) T.tuple (by decide +kernel) rfl) pa_nil))) pa_nil)))))
        (pss_one (ps_ret pe_non))
        pss_nil)
      (pss_cons (ps_for PassesOwn.never rfl (pi_sq (pv 0)) (pg_name (i := 1) nd rfl (Or.inl rfl))
        (pss_cons (ps_if (PW.pt (pw_or (pt_not (pt_val (pe_callB call_isiT (by rfl) T.isinstance (by decide +kernel) (pa_cons (pv 1) (pa_cons (pe_tup (pa_cons (pe_bltn (v := .ty "list") (by rfl) T.list (by decide +kernel) rfl) (pa_cons (pe_bltn (v := .ty "tuple") (by rfl) T.tuple (by decide +kernel) rfl) pa_nil))) pa_nil))))) (pw_or (pt_cmpR op_ne (pe_callB call_len (by rfl) T.len PySem.boot_len (pa_cons (pv 1) pa_nil)) pe_int (nomark _)) (pw_or1 (pt_not (pt_val (pe_callB (cr_all rfl) (by rfl) T.all (by decide +kernel) (pa_cons (pe_lc (own := [("_law_part", 2)]) (g := gName 2) (tt := tYes) (te := tCB (rIsi K) (tCons (tVar 2) (tCons (tC (.ty "int")) tNil))) (by rfl) nd (pi_sq (pv 1))
  (blkOk_by (own := [("_law_part", 2)]) (N := nSto) (sc := defScope sSto) (by decide +kernel))
  (fun _ _ _ _ _ => pg_name (i := 2) nd rfl (Or.inl rfl) (Or.inr rfl)) (fun _ _ _ _ _ => pts_nil)
  (fun _ _ _ _ _ => (pe_callB call_isi (by rfl) T.isinstance (by decide +kernel) (pa_cons (pv 2) (pa_cons (pe_bltn (v := .ty "int") (by rfl) T.int (by decide +kernel) rfl) pa_nil))))) pa_nil))))))))
          (pss_one (ps_ret pe_non))
          pss_nil)
        (pss_one (ps_if (pt_cmpR (op_neD hr.units) (pe_lc (own := [("_law_part", 2)]) (g := gName 2) (tt := tYes) (te := tCB (rIsi K) (tCons (tVar 2) (tCons (tC (.ty "bool")) tNil))) (by rfl) nd (pi_sq (pv 1))
  (blkOk_by (own := [("_law_part", 2)]) (N := nSto) (sc := defScope sSto) (by decide +kernel))
  (fun _ _ _ _ _ => pg_name (i := 2) nd rfl (Or.inl rfl) (Or.inr rfl)) (fun _ _ _ _ _ => pts_nil)
  (fun _ _ _ _ _ => (pe_callB call_isi (by rfl) T.isinstance (by decide +kernel) (pa_cons (pv 2) (pa_cons (pe_bltn (v := .ty "bool") (by rfl) T.bool (by decide +kernel) rfl) pa_nil))))) (pe_lst (pa_cons pe_bl (pa_cons pe_bl (pa_cons pe_bl (pa_cons pe_bl pa_nil))))) (nomark _))
          (pss_one (ps_ret pe_non))
          pss_nil))))
      (pss_one (ps_ret (pe_callTy call_tuple_of (by rfl) T.tuple (by decide +kernel) (pa_cons (pe_lc (own := [("_law_row", 1)]) (g := gName 1) (tt := tYes) (te := tCB (rTupOf K) (tCons (tVar 1) tNil)) (by rfl) nd (pi_sq (pv 0))
  (blkOk_by (own := [("_law_row", 1)]) (N := nSto) (sc := defScope sSto) (by decide +kernel))
  (fun _ _ _ _ _ => pg_name (i := 1) nd rfl (Or.inl rfl) (Or.inr rfl)) (fun _ _ _ _ _ => pts_nil)
  (fun _ _ _ _ _ => (pe_callTy call_tuple_of (by rfl) T.tuple (by decide +kernel) (pa_cons (pv 1) pa_nil)))) pa_nil)))))), ?_⟩
    refine ⟨_, rfl, (by show 2 ≤ sizeLine; decide), fun tp htp => ?_⟩
    generalize hH1 : upd H tp _ = H1
    have s1 : Same H H1 := hH1 ▸ Same.new htp
    have e1 : H1 tp = some (.tup [.ty "list", .ty "tuple"]) := hH1 ▸ upd_same
    clear hH1
    dsimp only [tNil]
    refine ax_isiT (hx.mono (Same.but (m := m) s1)) e1 ?_
    refine ⟨_, rfl, ?_⟩
    cases hlt : isLT d
    · refine iteT ?_
      exact kN (stP_no hlt) _ s1
    obtain ⟨ds, sq⟩ := isLT_sq hlt
    obtain ⟨p, us, rfl, np, hsq, hus⟩ := ax_sq hx sq
    have lus := hus.length
    have hz := hsz ds sq
    refine iteF ?_
    refine isq (a := p) (us := us) (fun Q q => ⟨_, rfl, q⟩) (hsq.same s1) (fun J G W hG => ?_)
    refine for_it W (fun i σ H2 => ∃ o1 o2, σ = [some (.ref p), o1, o2] ∧ Same H1 H2 ∧ ∀ e ∈ ds.take i, (rowP e).isSome = true) ?_ ?_ ?_ ?_
    · exact ⟨_, _, rfl, (fun _ _ e => e), fun e h => by rw [List.take_zero] at h; cases h⟩
    · rintro i σ H2 _ ⟨o1, o2, _, s2, _⟩
      exact hG _ (fun _ e => s2 _ _ e)
    · rintro i y σ H9 H2 hi ⟨o1, o2, rfl, s2, hrs⟩ ⟨e9, ey⟩
      subst e9
      obtain ⟨dx, ex, ax⟩ := hus.get ey
      have s12 := Same.tr s1 s2
      have ax2 := ax.mono (Same.but (m := m) s12)
      have ret : rowP dx = none → ∀ H', Same H2 H' → Q .non H' := fun e H' s' => kN (by rw [stP_sq sq]; exact rowsP_bad e (List.mem_of_getElem? ex)) _ (Same.tr s12 s')
      refine ⟨_, rfl, (by show 2 ≤ sizeLine; decide), fun tq htq => ?_⟩
      generalize hH3 : upd H2 tq _ = H3
      have s3 : Same H2 H3 := hH3 ▸ Same.new htq
      have e3 : H3 tq = some (.tup [.ty "list", .ty "tuple"]) := hH3 ▸ upd_same
      clear hH3
      dsimp only [tNil]
      refine ax_isiT (ax2.mono (Same.but (m := m) s3)) e3 ?_
      refine ⟨_, rfl, ?_⟩
      cases hl2 : isLT dx
      · refine iteT (iteT ?_)
        exact ret (rowP_no hl2) _ s3
      refine iteF ?_
      obtain ⟨rs, sq2⟩ := isLT_sq hl2
      obtain ⟨a, vs, rfl, na, hsa, hvs⟩ := ax_sq ax2 sq2
      have lvs := hvs.length
      refine ⟨_, rfl, _, _, rfl, (hsa.same s3).len, rfl, _, rfl, ?_⟩
      rw [vint]
      by_cases h4 : vs.length = 4
      case neg =>
        rw [decide_eq_false (show ¬ ((vs.length : Int) = 4) by omega)]
        refine iteT (iteT ?_)
        exact ret (by rw [rowP_sq sq2, row4_len (by omega)]) _ s3
      rw [decide_eq_true (show (vs.length : Int) = 4 by omega)]
      refine iteF ?_
      -- all([isinstance(part, int) ..])
      refine isq (a := a) (us := vs) (fun Q q => ⟨_, rfl, q⟩) (hsa.same s3) (fun J1 G1 W1 hG1 => fun Dl hDl => ?_)
      refine lc_it W1 (fun j H4 => Same H3 H4 ∧ H4 Dl = some (.lst (((rs.take j).map isID).map V.bl))) ?_ ?_ ?_ ?_
      · exact ⟨same_new hDl, upd_same⟩
      · exact fun j H4 _ q => hG1 _ (fun _ e => q.1 _ _ e)
      · rintro j u H8 H4 hj ⟨s4, hl4⟩ ⟨e8, eu⟩
        subst e8
        obtain ⟨dr, er, ar⟩ := hvs.get eu
        refine ⟨rfl, ?_⟩
        refine ⟨_, rfl, _, _, _, _, isID dr, rfl, .ty "int", (ar.mono (Same.but (m := m) (Same.tr s3 s4))).ty, kit_ty (k_id dr), ?_⟩
        refine ⟨_, hl4, ?_, ?_, ?_⟩
        · rw [List.length_map, List.length_map, List.length_take]
          exact small6 (by omega)
        · intro b u e
          rw [upd_ne (ne_of_none e hDl)]
          exact s4 _ _ e
        · rw [upd_same, take_succ' er, List.map_append, List.map_append]
          rfl
      · rintro H4 ⟨s4, hl4⟩
        rw [lvs, List.take_length] at hl4
        refine ⟨_, _, rfl, SqL.of hl4, ?_⟩
        refine ⟨_, rfl, ?_⟩
        have ea : (rs.map isID).all id = rs.all isID := by
          rw [List.all_map]
          rfl
        rw [ea]
        have s34 := Same.tr s3 s4
        obtain ⟨d0, d1, d2, d3, rfl⟩ := all4 (lvs.symm.trans h4)
        have his := row4_is d0 d1 d2 d3
        have rno : row4 [d0, d1, d2, d3] = rowP dx := (rowP_sq sq2).symm
        rw [rno] at his
        cases hid : [d0, d1, d2, d3].all isID
        · refine iteT ?_
          rw [hid, Bool.false_and] at his
          exact ret (by cases e : rowP dx with
            | none => rfl
            | some z => rw [e] at his; cases his) _ s34
        refine iteF ?_
        rw [hid, Bool.true_and] at his
        -- [isinstance(part, bool) ..]
        dsimp only [tNext]
        refine isq (a := a) (us := vs) (fun Q q => ⟨_, rfl, q⟩) (hsa.same s34) (fun J2 G2 W2 hG2 => fun Dm hDm => ?_)
        refine lc_it W2 (fun j H5 => Same H4 H5 ∧ H5 Dm = some (.lst ((([d0, d1, d2, d3].take j).map isBD).map V.bl))) ?_ ?_ ?_ ?_
        · exact ⟨same_new hDm, upd_same⟩
        · exact fun j H5 _ q => hG2 _ (fun _ e => q.1 _ _ e)
        · rintro j u H8 H5 hj ⟨s5, hl5⟩ ⟨e8, eu⟩
          subst e8
          obtain ⟨dr, er, ar⟩ := hvs.get eu
          refine ⟨rfl, ?_⟩
          refine ⟨_, rfl, _, _, _, _, isBD dr, rfl, .ty "bool", (ar.mono (Same.but (m := m) (Same.tr s34 s5))).ty, kit_ty (k_bd dr), ?_⟩
          refine ⟨_, hl5, ?_, ?_, ?_⟩
          · rw [List.length_map, List.length_map, List.length_take]
            exact small6 (by omega)
          · intro b u e
            rw [upd_ne (ne_of_none e hDm)]
            exact s5 _ _ e
          · rw [upd_same, take_succ' er, List.map_append, List.map_append]
            rfl
        · rintro H5 ⟨s5, hl5⟩
          rw [lvs, List.take_length] at hl5
          refine ⟨(by show 4 ≤ sizeLine; decide), fun N1 nN1 => ?_⟩
          generalize hN1 : upd H5 N1 _ = H6
          have sN1 : Same H5 H6 := hN1 ▸ Same.new nN1
          have eN1 : H6 N1 = some (.lst [.bl false, .bl true, .bl true, .bl false]) := hN1 ▸ upd_same
          clear hN1
          refine ⟨_, _, Dp.lst (SqL.of (sN1 _ _ hl5)) (at_bools (m := tp) _).dp, Dp.lst (SqL.of eN1) (at_bools (m := tp) [false, true, true, false]).dp, shaped_bools _, shaped_bools [false, true, true, false], ?_⟩
          rw [eqv_bools]
          have s26 := Same.tr s34 (Same.tr s5 sN1)
          refine ⟨_, rfl, ?_⟩
          by_cases hb : [d0, d1, d2, d3].map isBD = [false, true, true, false]
          case neg =>
            rw [decide_eq_false hb]
            refine iteT ?_
            rw [show [isBD d0, isBD d1, isBD d2, isBD d3] = [d0, d1, d2, d3].map isBD from rfl, decide_eq_false hb] at his
            exact ret (by cases e : rowP dx with
              | none => rfl
              | some z => rw [e] at his; cases his) _ s26
          rw [decide_eq_true hb]
          refine iteF ?_
          rw [show [isBD d0, isBD d1, isBD d2, isBD d3] = [d0, d1, d2, d3].map isBD from rfl, decide_eq_true hb] at his
          refine ⟨_, _, rfl, Same.tr s2 s26, fun e he => ?_⟩
          rw [take_succ' ex] at he
          rcases List.mem_append.mp he with he | he
          · exact hrs e he
          · rw [List.mem_singleton.mp he]
            exact his
    · rintro σ H2 ⟨o1, o2, rfl, s2, hrs⟩
      rw [lus, List.take_length] at hrs
      obtain ⟨xs, hxs⟩ := Option.isSome_iff_exists.mp (rowsP_ok hrs)
      obtain ⟨lxs, gt⟩ := rowsP_get hxs
      have s12 := Same.tr s1 s2
      refine isq (a := p) (us := us) (fun Q q => ⟨_, rfl, q⟩) (hsq.same s12) (fun J3 G3 W3 hG3 => fun Dm hDm => ?_)
      refine lc_it W3 (fun j H7 => Same H2 H7 ∧ ∃ zs, H7 Dm = some (.lst zs) ∧ zs.length = j ∧ TpAll H7 zs ((xs.take j).map rowD)) ?_ ?_ ?_ ?_
      · exact ⟨same_new hDm, [], upd_same, rfl, .nil⟩
      · exact fun j H7 _ q => hG3 _ (fun _ e => q.1 _ _ e)
      · rintro j u H8 H7 hj ⟨s7, zs, hl7, lz, tz⟩ ⟨e8, eu⟩
        subst e8
        obtain ⟨dr, er, ar⟩ := hus.get eu
        obtain ⟨x, hx2, hrp⟩ := gt j dr er
        obtain ⟨R, rfl, hR⟩ := row_ax ar hrp
        have s47 := Same.tr s12 s7
        refine ⟨rfl, ?_⟩
        refine ⟨_, rfl, ?_⟩
        dsimp only [tNil]
        have fin : ∀ (q : Addr) (H8 : Hp), Same H7 H8 → H8 q = some (.tup (rowV x)) → ∃ acc, H8 Dm = some (.lst acc) ∧ acc.length < sizeLine ∧ Same H2 (upd H8 Dm (.lst (acc ++ [.ref q]))) ∧ ∃ zs, upd H8 Dm (.lst (acc ++ [.ref q])) Dm = some (.lst zs) ∧ zs.length = j + 1 ∧ TpAll (upd H8 Dm (.lst (acc ++ [.ref q]))) zs ((xs.take (j + 1)).map rowD) := fun q H8 s8 hq => by
          have hl8 := s8 _ _ hl7
          refine ⟨zs, hl8, small6 (by omega), fun b u e => ?_, zs ++ [.ref q], upd_same, by rw [List.length_append, lz]; rfl, ?_⟩
          · rw [upd_ne (ne_of_none e hDm)]
            exact s8 _ _ (s7 _ _ e)
          · rw [take_succ' hx2, List.map_append]
            exact ((tz.mono (.same s8)).append (tp_row hq)).mono (.lst hl8)
        rcases hR with hq | hq
        · exact ⟨_, _, rfl, .inl ⟨SqL.of (s47 _ _ hq), fun l hl => fin l _ (same_new hl) upd_same⟩⟩
        · exact ⟨_, _, rfl, .inr ⟨SqT.of (s47 _ _ hq), fin R _ (fun _ _ e => e) (s47 _ _ hq)⟩⟩
      · rintro H7 ⟨s7, zs, hl7, lz, tz⟩
        rw [show us.length = xs.length by omega, List.take_length] at tz
        refine ⟨_, _, rfl, .inl ⟨SqL.of hl7, fun p8 np8 => ?_⟩⟩
        have s17 := Same.tr s12 s7
        refine k xs (by rw [stP_sq sq]; exact hxs) p8 _ (Same.tr s17 (same_new np8)) (fun z => ?_) (.tup upd_same (tz.mono (.same (same_new np8))))
        rw [z, s17 _ _ hm] at np8
        cases np8
end
end C81

set_option Elab.async false
set_option maxRecDepth 100000
set_option maxHeartbeats 4000000
set_option linter.all false
namespace C81
open PySem L2 My M78
abbrev sWlk : Stmt := top 55
abbrev nWlk : List Str := ["_law_scripts_here", "_law_order", "_law_here", "_law_ends", "_law_one_here", "_law_refused_here"]
theorem scWlk : FnScope nWlk ["_law_scripts_here", "_law_order"] (defScope sWlk) := ⟨rfl, rfl, rfl, by decide +kernel, rfl, by decide +kernel, by decide +kernel⟩

def wkD (ss : List (List Wd)) : PyData → Option (List Row × List Bool)
  | .list ds => wk ss ds
  | .tuple ds => wk ss ds
  | _ => none
theorem wkD_no {ss : List (List Wd)} {d : PyData} (h : isLT d = false) : wkD ss d = none := by
  cases d <;> first | rfl | cases h
theorem wkD_sq {ss : List (List Wd)} {d : PyData} {ds : List PyData} (s : Sq2 d ds) : wkD ss d = wk ss ds := by rcases s with rfl | rfl <;> rfl
theorem isOrd_wk (ss : List (List Wd)) (d : PyData) : isOrd ss d = match wkD ss d with
    | some p => ordF p.2
    | none => false := by
  cases d <;> rfl
theorem isStu_wk (ss : List (List Wd)) (d : PyData) : isStu ss d = match wkD ss d with
    | some p => stk ss p.1
    | none => false := by
  cases d <;> rfl
theorem inV_neg {i : Int} (h : i < 0) (l : List Nat) : inV (.int i) (l.map fun k : Nat => V.int (k : Int)) = false := by
  unfold inV
  rw [List.any_eq_false]
  intro y hy
  obtain ⟨k, _, rfl⟩ := List.mem_map.mp hy
  intro e
  have e : eqV (.int (k : Int)) (.int i) = true := e
  have : (k : Int) = i := by simpa [eqV] using e
  omega
theorem wkS_none {ss : List (List Wd)} {xs : List Row} {rs : List Bool} {d : PyData} (h : ∀ k : Nat, d = .int (k : Int) → ¬ k ∈ wt ss xs) : wkS ss (some (xs, rs)) d = none := by
  cases e : wkS ss (some (xs, rs)) d with
  | none => rfl
  | some p =>
    obtain ⟨_, k, eq, ed, hk, _⟩ := wkS_some e
    cases eq
    exact absurd hk (h k ed)
theorem isID_int {d : PyData} (h : isID d = true) (h2 : isBD d = false) : ∃ i, d = .int i := by
  cases d with
  | int i => exact ⟨i, rfl⟩
  | bool b => cases h2
  | _ => cases h
theorem isID_nat {k : Nat} : isID (.int (k : Int)) = true ∧ isBD (.int (k : Int)) = false := ⟨rfl, rfl⟩
section
variable {P : Program} {w : World} {K : PySem.W.Frag} {mg : Str → Option Value} {base : Heap}

/-- where any object as an order leads -/
def spWlk : Sp := fun vs H Q _ => ∃ (m A : Addr) (x : V) (o : HO) (ss : List (List Wd)) (od : PyData), H m = some o ∧ NoT H m ∧ vs = [.ref A, x] ∧ Tp H (.ref A) (scD ss) ∧ Ok4 ss ∧ Ax m H x od ∧ (∀ ds, Sq2 od ds → ds.length ≤ 1000) ∧
  (∀ p, wkD ss od = some p → ∀ (q B L : Addr) (H' : Hp), Same H H' → H' q = some (.tup [.ref B, .ref L]) → Tp H' (.ref B) (stD p.1) → H' L = some (.lst (p.2.map V.bl)) → Q (.ref q) H') ∧ (wkD ss od = none → ∀ H', Same H H' → Q .non H')
theorem pr_wlk (D' : Df K mg "_law_walked" sWlk ["_law_scripts_here", "_law_order"]) (T : Ty mg) (PB : Pr P w K mg base 1 "_law_begun" ["_law_scripts_here"] spBegun) (PL : Pr P w K mg base 4 "_law_left" ["_law_scripts_here", "_law_here"] spLeft)
    (PAf : Pr P w K mg base 2 "_law_after" ["_law_scripts_here", "_law_here", "_law_at"] spAfter) : Pr P w K mg base 5 "_law_walked" ["_law_scripts_here", "_law_order"] spWlk := by
  refine D'.pr scWlk (fun vs H Q E h => ?_) (fun f cdv A outer s H vs Q E hr h => ?_)
  · obtain ⟨m, A, x, o, ss, od, hm, _, rfl, _⟩ := h
    rfl
  · obtain ⟨m, A, x, o, ss, od, hm, nTm, rfl, tA, ok4, hx, hsz, k, kN⟩ := h
    have nd := scWlk.nd
    have hr1 := hr.mono (show 1 ≤ 4 by decide)
    have hr2 := hr.mono (show 2 ≤ 4 by decide)
    have l4 := ok4.l4
    refine ⟨_, (pss_cons (ps_if (pt_not (pt_val (pe_callB call_isiT (by rfl) T.isinstance (by decide +kernel) (pa_cons (pv 1) (pa_cons (pe_tup (pa_cons (pe_bltn (v := .ty "list") (by rfl) T.list (by decide +kernel) rfl) (pa_cons (pe_bltn (v := .ty "tuple") (by rfl) T.tuple (by decide +kernel) rfl) pa_nil))) pa_nil)))))
        (pss_one (ps_ret pe_non))
        pss_nil)
      (pss_cons (ps_par (by rfl) nd (i := 2) (j := 3) rfl rfl (by decide) rfl rfl (pa_cons (pe_callP PB hr1 (by rfl) (pa_cons (pv 0) pa_nil)) (pa_cons (pe_lst pa_nil) pa_nil)) (by rfl))
      (pss_cons (ps_for PassesOwn.never rfl (pi_sq (pv 1)) (pg_name (i := 4) nd rfl (Or.inl rfl))
        (pss_cons (ps_if (PW.pt (pw_or (pt_not (pt_val (pe_callB call_isi (by rfl) T.isinstance (by decide +kernel) (pa_cons (pv 4) (pa_cons (pe_bltn (v := .ty "int") (by rfl) T.int (by decide +kernel) rfl) pa_nil))))) (pw_or (pt_val (pe_callB call_isi (by rfl) T.isinstance (by decide +kernel) (pa_cons (pv 4) (pa_cons (pe_bltn (v := .ty "bool") (by rfl) T.bool (by decide +kernel) rfl) pa_nil)))) (pw_or1 (pt_cmpR op_notIn_seq (pv 4) (pe_callP PL hr (by rfl) (pa_cons (pv 0) (pa_cons (pv 2) pa_nil))) (by rfl))))))
          (pss_one (ps_ret pe_non))
          pss_nil)
        (pss_cons (ps_asg (pe_callP PAf hr2 (by rfl) (pa_cons (pv 0) (pa_cons (pv 2) (pa_cons (pv 4) pa_nil)))) (pg_tup rfl (pgs_cons (pg_name (i := 2) nd rfl (Or.inl rfl)) (pgs_cons (pg_name (i := 5) nd rfl (Or.inl rfl)) pgs_nil))))
        (pss_one (ps_expr (pe_bm PySem.F.plainAttrs_list PySem.F.slot_list_append PySem.F.type_list_append mt_append (pv 3) (pa_cons (pv 5) pa_nil)))))))
      (pss_one (ps_ret (pe_tup (pa_cons (pv 2) (pa_cons (pv 3) pa_nil)))))))), ?_⟩
    refine ⟨_, rfl, (by show 2 ≤ sizeLine; decide), fun tp htp => ?_⟩
    generalize hH1 : upd H tp _ = H1
    have s1 : Same H H1 := hH1 ▸ Same.new htp
    have e1 : H1 tp = some (.tup [.ty "list", .ty "tuple"]) := hH1 ▸ upd_same
    clear hH1
    dsimp only [tNil]
    refine ax_isiT (hx.mono (Same.but (m := m) s1)) e1 ?_
    refine ⟨_, rfl, ?_⟩
    cases hlt : isLT od
    · refine iteT ?_
      exact kN (wkD_no hlt) _ s1
    obtain ⟨ds, sq⟩ := isLT_sq hlt
    obtain ⟨p, us, rfl, np, hsq, hus⟩ := ax_sq hx sq
    have lus := hus.length
    have hz := hsz ds sq
    have hwd : wkD ss od = wk ss ds := wkD_sq sq
    refine iteF ?_
    have hm1 := s1 _ _ hm
    have nT1 : NoT H1 m := fun ws z => by
      rw [hm1] at z
      exact nTm ws (by rw [hm]; exact z)
    refine ⟨_, rfl, m, A, o, ss, hm1, rfl, (tA.mono (.same s1)).at nT1, (by omega), fun B H2 nB s2 a2 => ?_⟩
    have tB : Tp H2 (.ref B) (stD (s0 ss)) := a2.tp (isT_st _)
    refine ⟨(by show 0 ≤ sizeLine; decide), fun E1 nE1 => ?_⟩
    generalize hE1 : upd H2 E1 _ = H3
    have sE1 : Same H2 H3 := hE1 ▸ Same.new nE1
    have eE1 : H3 E1 = some (.lst []) := hE1 ▸ upd_same
    clear hE1
    refine ⟨_, _, rfl, ?_⟩
    have s3 := Same.tr s1 (Same.tr s2 sE1)
    have nE : H E1 = none := Same.free (Same.tr s1 s2) nE1
    refine isq (a := p) (us := us) (fun Q q => ⟨_, rfl, q⟩) (hsq.same s3) (fun J G W hG => ?_)
    refine for_it W (fun j σ H4 => ∃ (B : Addr) (xs : List Row) (rs : List Bool) (o4 o5 : Option V), σ = [some (.ref A), some (.ref p), some (.ref B), some (.ref E1), o4, o5] ∧ Same H H4 ∧ Tp H4 (.ref B) (stD xs) ∧ H4 E1 = some (.lst (rs.map V.bl)) ∧ wk ss (ds.take j) = some (xs, rs)) ?_ ?_ ?_ ?_
    · exact ⟨B, s0 ss, [], _, _, rfl, s3, tB.mono (.same sE1), eE1, rfl⟩
    · rintro j σ H4 _ ⟨B, xs, rs, o4, o5, _, s4, _⟩
      refine hG _ fun o e => ?_
      rcases hsq with q | q
      · rw [s3 _ _ q] at e
        cases e
        exact s4 _ _ q
      · rw [s3 _ _ q] at e
        cases e
        exact s4 _ _ q
    · rintro j vr σ H5' H4 hj ⟨B, xs, rs, o4, o5, rfl, s4, tB4, hE4, hwk⟩ ⟨e5, er⟩
      subst e5
      obtain ⟨dx, ex, ax⟩ := hus.get er
      have si : SI ss xs := (wk_si ok4.ok hwk).1
      have lrs : rs.length ≤ j := by
        have := (wk_si ok4.ok hwk).2
        rw [List.length_take] at this
        have this : rs.length = min j ds.length := this
        omega
      have hnext : wk ss (ds.take (j + 1)) = wkS ss (some (xs, rs)) dx := by rw [take_succ' ex, wk_snoc, hwk]
      have lxs : ss.length = xs.length := paired_len si
      have ax4 := ax.mono (Same.but (m := m) s4)
      have ret : wkS ss (some (xs, rs)) dx = none → ∀ H', Same H4 H' → Q .non H' := fun e H' s' => by
        refine kN ?_ _ (Same.tr s4 s')
        rw [hwd]
        have := wk_none (ds.drop (j + 1)) (hnext.trans e)
        rwa [List.take_append_drop] at this
      refine ⟨_, rfl, _, _, _, _, isID dx, rfl, .ty "int", ax4.ty, kit_ty (k_id dx), ?_⟩
      refine ⟨_, rfl, ?_⟩
      cases hi : isID dx
      · refine iteT (iteT ?_)
        exact ret (wkS_none fun k e => by rw [e, isID_nat.1] at hi; cases hi) _ (fun _ _ e => e)
      refine iteF ?_
      refine ⟨_, rfl, _, _, _, _, isBD dx, rfl, .ty "bool", ax4.ty, kit_ty (k_bd dx), ?_⟩
      refine ⟨_, rfl, ?_⟩
      cases hb : isBD dx
      case true =>
        refine iteT (iteT ?_)
        exact ret (wkS_none fun k e => by rw [e, isID_nat.2] at hb; cases hb) _ (fun _ _ e => e)
      refine iteF ?_
      obtain ⟨i, rfl⟩ := isID_int hi hb
      cases ax
      have nT4 : NoT H4 E1 := .lst hE4
      have tA4 := tA.mono (.same s4)
      refine ⟨_, rfl, _, rfl, _, rfl, E1, A, B, ss, xs, rfl, tA4.at nT4, tB4.at nT4, lxs, (by omega), fun Lf H5 nLf s5 hLf => ?_⟩
      refine ⟨_, _, rfl, .inl (SqL.of hLf), rfl, flat_nats _, ?_⟩
      by_cases hneg : i < 0
      · rw [inV_neg hneg]
        refine ⟨_, rfl, ?_⟩
        refine iteT ?_
        refine ret (wkS_none fun k e => ?_) _ s5
        cases e
        omega
      obtain ⟨kk, rfl⟩ := Int.eq_ofNat_of_zero_le (show 0 ≤ i by omega)
      rw [inV_nat]
      refine ⟨_, rfl, ?_⟩
      by_cases hkw : kk ∈ wt ss xs
      case neg =>
        rw [decide_eq_false (show ¬ kk ∈ waitL ss xs xs.length from hkw)]
        refine iteT ?_
        exact ret (not_wt hkw) _ s5
      rw [decide_eq_true (show kk ∈ waitL ss xs xs.length from hkw)]
      refine iteF ?_
      obtain ⟨sc, x, pl, v, hsc, hx2, hp, hv, hnx, sin, haf⟩ := wt_nx ok4.ok si hkw
      rw [wkS_go hkw] at hnext
      have s45 := Same.tr s4 s5
      have nT5 : NoT H5 E1 := .lst (s5 _ _ hE4)
      refine ⟨_, rfl, _, rfl, _, rfl, E1, A, B, _, ss, xs, kk, pl, sc, x, v, s5 _ _ hE4, rfl, (tA4.mono (.same s5)).at nT5, (tB4.mono (.same s5)).at nT5, (by omega), hsc, hx2, hp, hv, si.nonneg, fun q6 H6 s6 a6 => ?_⟩
      rw [haf] at a6
      have e1 : (nx ss xs kk).1 = xs.set kk (triedM v x (topM xs kk)).1 := by rw [hnx]
      have e2 : (nx ss xs kk).2 = (triedM v x (topM xs kk)).2 := by rw [hnx]
      rw [← e1, ← e2] at a6
      obtain ⟨_, u6, eu, _, h6, au⟩ := at_tup a6
      cases eu
      cases au with
      | @cons va _ _ _ aa ar =>
        cases ar with
        | cons ab ar2 =>
          cases ar2
          cases ab
          have ta6 := aa.tp (isT_st _)
          obtain ⟨a7, x7, rfl, _, _⟩ := Tp.ref (ds := (nx ss xs kk).1.map rowD) ta6
          refine ⟨_, _, rfl, SqT.of h6, rfl, _, _, rfl, _, _, rfl, rfl, ?_⟩
          have hE6 := s6 _ _ (s5 _ _ hE4)
          refine ⟨_, rfl, .inl ⟨rfl, _, SqL.of hE6⟩, _, rfl, E1, _, _, rfl, rfl, hE6, (by rw [List.length_map]; exact small6 (by omega)), ?_⟩
          refine ⟨a7, (nx ss xs kk).1, rs ++ [(nx ss xs kk).2], _, _, rfl, fun b u e => ?_, ta6.mono (.lst hE6), ?_, hnext⟩
          · rw [upd_ne (ne_of_none e nE)]
            exact s6 _ _ (s45 _ _ e)
          · rw [upd_same, List.map_append]
            rfl
    · rintro σ H4 ⟨B, xs, rs, o4, o5, rfl, s4, tB4, hE4, hwk⟩
      rw [lus, List.take_length] at hwk
      refine ⟨_, rfl, _, rfl, (by show 2 ≤ sizeLine; decide), fun N1 nN1 => ?_⟩
      generalize hN1 : upd H4 N1 _ = H5
      have sN1 : Same H4 H5 := hN1 ▸ Same.new nN1
      have eN1 : H5 N1 = some (.tup [.ref B, .ref E1]) := hN1 ▸ upd_same
      clear hN1
      exact k (xs, rs) (hwd.trans hwk) N1 B E1 _ (Same.tr s4 sN1) eN1 (tB4.mono (.same sN1)) (sN1 _ _ hE4)
end
end C81

set_option Elab.async false
set_option maxRecDepth 100000
set_option maxHeartbeats 4000000
set_option linter.all false
/-! The tables of sets, of any size: each mask 2 ^ k - 1. -/
namespace My
open PySem PySem.Spec PyProof.Rows L2
/-! 5 x + 1, again and again: by 2 ^ k it comes to all -/
def fv : Nat → Nat
  | 0 => 0
  | n + 1 => 5 * fv n + 1
theorem fv_add (a : Nat) : ∀ c, fv (a + c) = 5 ^ c * fv a + fv c
  | 0 => by rw [Nat.pow_zero, Nat.one_mul]; rfl
  | c + 1 => by
    show 5 * fv (a + c) + 1 = 5 ^ (c + 1) * fv a + (5 * fv c + 1)
    rw [fv_add a c, Nat.pow_succ, Nat.mul_comm (5 ^ c) 5, Nat.mul_assoc]
    generalize 5 ^ c * fv a = z
    omega
theorem five_pow : ∀ c, 5 ^ c = 4 * fv c + 1
  | 0 => rfl
  | c + 1 => by
    show 5 ^ (c + 1) = 4 * (5 * fv c + 1) + 1
    rw [Nat.pow_succ, five_pow c]
    omega
theorem fv_dbl (m : Nat) : fv (m + m) = 2 * (fv m * (2 * fv m + 1)) := by
  rw [fv_add, five_pow, Nat.add_mul, Nat.one_mul, Nat.mul_add, Nat.mul_one, Nat.mul_add, Nat.mul_assoc 4, Nat.mul_left_comm (fv m) 2 (fv m)]
  generalize fv m * fv m = z
  omega
theorem fv_par : ∀ n, fv n % 2 = n % 2
  | 0 => rfl
  | n + 1 => by
    have := fv_par n
    show (5 * fv n + 1) % 2 = (n + 1) % 2
    omega
theorem odd_co {x : Nat} (k : Nat) (h : x % 2 = 1) : Nat.Coprime (2 ^ k) x := by
  refine Nat.Coprime.pow_left k ?_
  unfold Nat.Coprime
  rw [Nat.gcd_rec, h]
  rfl
theorem fv_dvd : ∀ k n, 2 ^ k ∣ fv n → 2 ^ k ∣ n
  | 0, _, _ => ⟨_, by rw [Nat.pow_zero, Nat.one_mul]⟩
  | k + 1, n, h => by
    have h2 : 2 ∣ fv n := Nat.dvd_trans ⟨2 ^ k, by rw [Nat.pow_succ, Nat.mul_comm]⟩ h
    have hp := fv_par n
    obtain ⟨m, rfl⟩ : ∃ m, n = m + m := ⟨n / 2, by omega⟩
    rw [fv_dbl, Nat.pow_succ, Nat.mul_comm (2 ^ k) 2] at h
    have h3 := Nat.dvd_of_mul_dvd_mul_left (by decide) h
    have h4 := fv_dvd k m ((odd_co k (by omega)).dvd_of_dvd_mul_right h3)
    rw [show m + m = 2 * m by omega, Nat.pow_succ, Nat.mul_comm (2 ^ k) 2]
    exact Nat.mul_dvd_mul_left 2 h4
theorem fv_full : ∀ k, 2 ^ k ∣ fv (2 ^ k)
  | 0 => ⟨_, by rw [Nat.pow_zero, Nat.one_mul]⟩
  | k + 1 => by
    rw [show 2 ^ (k + 1) = 2 ^ k + 2 ^ k by rw [Nat.pow_succ]; omega, fv_dbl]
    obtain ⟨q, e⟩ := fv_full k
    refine ⟨q * (2 * fv (2 ^ k) + 1), ?_⟩
    generalize 2 * fv (2 ^ k) + 1 = y
    rw [e, Nat.mul_assoc (2 ^ k) q y]
    generalize 2 ^ k = x
    rw [Nat.add_mul]
    omega
theorem lcg_fv (m : Nat) : ∀ n, lcgN m n = fv n % (m + 1)
  | 0 => (Nat.zero_mod _).symm
  | n + 1 => by
    show (lcgN m n * 5 + 1) % (m + 1) = (5 * fv n + 1) % (m + 1)
    rw [lcg_fv m n, Nat.mul_comm 5 (fv n), Nat.add_mod, Nat.mul_mod, Nat.mod_mod, ← Nat.mul_mod, ← Nat.add_mod]
/-- the masks -/
def MskP (m : Nat) : Prop := ∃ k, 3 ≤ k ∧ m + 1 = 2 ^ k
theorem fv_inj {m a c : Nat} (hm : MskP m) (hc : c ≤ m) (h : lcgN m (c + a) = lcgN m a) : c = 0 := by
  obtain ⟨k, _, e⟩ := hm
  rw [lcg_fv, lcg_fv] at h
  have h2 := Nat.sub_mod_eq_zero_of_mod_eq h
  rw [fv_add, Nat.add_sub_cancel, e] at h2
  have h3 : 2 ^ k ∣ fv c := (odd_co k (x := 5 ^ a) (by rw [five_pow]; omega)).dvd_of_dvd_mul_left (Nat.dvd_of_mod_eq_zero h2)
  exact Nat.eq_zero_of_dvd_of_lt (fv_dvd k c h3) (by omega)
theorem cyc_nodup {m : Nat} (hm : MskP m) : ((List.range (m + 1)).map (lcgN m)).Nodup := by
  rw [List.nodup_iff_pairwise_ne, List.pairwise_map]
  refine List.Pairwise.imp_of_mem ?_ List.pairwise_lt_range
  intro a b ha hb hlt e
  have hb2 := List.mem_range.mp hb
  have := fv_inj (a := a) (c := b - a) hm (by omega) (by rw [Nat.sub_add_cancel (Nat.le_of_lt hlt)]; exact e.symm)
  omega
theorem cyc_all {m : Nat} (hm : MskP m) {j : Nat} (hj : j ≤ m) : ∃ b, b ≤ m ∧ lcgN m b = j := by
  rcases Classical.em (j ∈ (List.range (m + 1)).map (lcgN m)) with c | c
  · obtain ⟨b, hb, e⟩ := List.mem_map.mp c
    exact ⟨b, Nat.le_of_lt_succ (List.mem_range.mp hb), e⟩
  · exfalso
    have := nat_nodup_len (j :: (List.range (m + 1)).map (lcgN m)) (List.range (m + 1)) (List.nodup_cons.mpr ⟨c, cyc_nodup hm⟩) fun x hx => by
      rcases List.mem_cons.mp hx with rfl | hx
      · exact List.mem_range.mpr (by omega)
      · obtain ⟨b, _, rfl⟩ := List.mem_map.mp hx
        rw [lcg_fv]
        exact List.mem_range.mpr (Nat.mod_lt _ (Nat.succ_pos _))
    rw [List.length_cons, List.length_map, List.length_range] at this
    omega
theorem cyc_back {m : Nat} (hm : MskP m) : lcgN m (m + 1) = 0 := by
  obtain ⟨k, _, e⟩ := hm
  rw [lcg_fv, e]
  exact Nat.mod_eq_zero_of_dvd (fv_full k)
theorem cyc_mod {m : Nat} (hm : MskP m) (n : Nat) : lcgN m (m + 1 + n) = lcgN m n := by
  induction n with
  | zero => exact cyc_back hm
  | succ n ih =>
    show (lcgN m (m + 1 + n) * 5 + 1) % (m + 1) = (lcgN m n * 5 + 1) % (m + 1)
    rw [ih]
theorem cyc_from {m i j : Nat} (hm : MskP m) (hi : i ≤ m) (hj : j ≤ m) : ∃ k, k ≤ m ∧ lcgI m i k = j := by
  obtain ⟨a, la, rfl⟩ := cyc_all hm hi
  obtain ⟨b, lb, rfl⟩ := cyc_all hm hj
  by_cases c : a ≤ b
  · exact ⟨b - a, by omega, by rw [lcgN_add, Nat.add_sub_cancel' c]⟩
  · exact ⟨m + 1 + b - a, by omega, by rw [lcgN_add, Nat.add_sub_cancel' (by omega), cyc_mod hm]⟩
theorem runs_to {m j : Nat} (hm : MskP m) (h : Int) (hj : j ≤ m) : ∃ n, n ≤ m + 12 ∧ runI m (SetTable.bits h) n = j := by
  obtain ⟨k, hk, e⟩ := cyc_from hm (runI_le m (SetTable.bits h) 12) hj
  refine ⟨12 + k, by omega, ?_⟩
  rw [runI_tail (bits_lt h), e]
theorem way_to {m j : Nat} (hm : MskP m) (h : Int) (hj : j ≤ m) : ∃ k, k < 10 * SetTable.turns m ∧ way m h k = j := by
  obtain ⟨n, hn, e⟩ := runs_to hm h hj
  obtain ⟨k, hk, e2⟩ := run_nth m (SetTable.bits h) n
  exact ⟨k, by unfold SetTable.turns; omega, by unfold way; rw [e2]; exact e⟩
theorem way_in (m : Nat) (h : Int) (k : Nat) : way m h k ≤ m := by
  have hi : SetTable.bits h % (m + 1) ≤ m := Nat.le_of_lt_succ (Nat.mod_lt _ (Nat.succ_pos _))
  have q := nth_in (m := m) k (runAt m (SetTable.bits h % (m + 1)) (SetTable.bits h)) (by
    have r := runEnd_bd hi
    unfold runAt
    dsimp only
    omega)
  exact Nat.le_trans (Nat.le_add_right _ _) q
/-! a table in which all are found -/
structure TabG (t : SetTable) (hs : List Int) : Prop where
  ris : Ris t.place.toList
  dm : t.dummies = #[]
  sz : t.place.size = hs.length
  mok : MskP t.mask
  bd : ∀ x ∈ t.place.toList, x ≤ t.mask
  reach : ∀ (i : Nat) (h : Int) (j : Nat), hs[i]? = some h → t.place.toList[i]? = some j → ∃ k, way t.mask h k = j ∧ ∀ k', k' < k → way t.mask h k' ∈ t.place.toList
theorem msk_odd {m : Nat} (h : MskP m) : m % 2 = 1 := by
  obtain ⟨k, h3, e⟩ := h
  obtain ⟨c, rfl⟩ : ∃ c, k = c + 1 := ⟨k - 1, by omega⟩
  rw [Nat.pow_succ] at e
  omega
theorem TabG.len {t : SetTable} {hs : List Int} (T : TabG t hs) : t.place.toList.length = hs.length := by rw [Array.length_toList, T.sz]
theorem TabG.first {t : SetTable} {hs : List Int} (T : TabG t hs) (room : hs.length ≤ t.mask) (h : Int) : ∃ K, K < 10 * SetTable.turns t.mask ∧ way t.mask h K ∉ t.place.toList ∧ ∀ k, k < K → way t.mask h k ∈ t.place.toList := by
  obtain ⟨j, hj, hn⟩ := st_missing t.place.toList (t.mask + 1) (by rw [T.len]; omega)
  obtain ⟨k, hk, rfl⟩ := way_to T.mok h (Nat.le_of_lt_succ hj)
  obtain ⟨K, h1, h2, h3⟩ := st_least (p := fun k => way t.mask h k ∉ t.place.toList) k hn
  exact ⟨K, by omega, h2, fun c hc => Classical.not_not.mp (h3 c hc)⟩
theorem TabG.before {t : SetTable} {hs : List Int} (T : TabG t hs) {h : Int} {K i j : Nat} (hK : way t.mask h K ∉ t.place.toList) (hi : hs[i]? = some h) (hj : t.place.toList[i]? = some j) : ∃ k, k < K ∧ way t.mask h k = j := by
  obtain ⟨k, rfl, hb⟩ := T.reach i h j hi hj
  refine ⟨k, Classical.not_not.mp fun c => ?_, rfl⟩
  rcases Nat.lt_or_eq_of_le (Nat.le_of_not_lt c) with c | rfl
  · exact hK (hb K c)
  · exact hK (List.mem_of_getElem? hj)
/-- one more is put in -/
structure PutG (t t' : SetTable) (hs : List Int) (h : Int) (p : Nat) : Prop where
  le : p ≤ hs.length
  tab : TabG t' (hs.take p ++ h :: hs.drop p)
  mask : t'.mask = t.mask
  fill : t'.fill = hs.length + 1
theorem TabG.put {t : SetTable} {hs : List Int} (T : TabG t hs) {h : Int} {K : Nat} (hK : way t.mask h K ∉ t.place.toList) (hb : ∀ k, k < K → way t.mask h k ∈ t.place.toList) :
    PutG t (t.put (way t.mask h K)).1 hs h (t.put (way t.mask h K)).2 := by
  have hw := way_in t.mask h K
  generalize ew : way t.mask h K = z at hK hw ⊢
  obtain ⟨c1, _, _⟩ := below_cut T.ris z
  have ep : (t.put z).2 = SetTable.below t.place z := rfl
  rw [ep]
  generalize hB : SetTable.below t.place z = p at c1
  have lp := T.len
  have hpl : p ≤ t.place.toList.length := by rw [Array.length_toList]; exact c1
  have pp : (t.put z).1.place.toList = t.place.toList.take p ++ z :: t.place.toList.drop p := by rw [← hB]; exact put_place t z
  have size : (t.put z).1.place.size = hs.length + 1 := by rw [← Array.length_toList, pp, len_ins _ hpl, lp]
  have more : ∀ {x : Nat}, x ∈ t.place.toList → x ∈ (t.put z).1.place.toList := fun {x} hx => by rw [pp]; exact mem_ins.2 (.inr hx)
  have ho : t.place[SetTable.below t.place z]? ≠ some z := fun e => hK (List.mem_of_getElem? (by rw [Array.getElem?_toList]; exact e))
  refine ⟨by omega, ⟨ris_insert T.ris ho, put_dm T.dm z, ?_, T.mok, ?_, ?_⟩, rfl, ?_⟩
  · rw [len_ins _ (by omega), size]
  · intro x hx
    rw [pp] at hx
    rcases mem_ins.1 hx with rfl | hx
    · exact hw
    · exact T.bd x hx
  · intro i h2 j e1 e2
    rw [tins_get hs (by omega)] at e1
    rw [pp, tins_get _ hpl] at e2
    have old : ∀ n, hs[n]? = some h2 → t.place.toList[n]? = some j → ∃ k, way t.mask h2 k = j ∧ ∀ k', k' < k → way t.mask h2 k' ∈ (t.put z).1.place.toList := fun n a b => by
      obtain ⟨k, e, q⟩ := T.reach n h2 j a b
      exact ⟨k, e, fun c hc => more (q c hc)⟩
    by_cases c : i < p
    · rw [if_pos c] at e1 e2
      exact old i e1 e2
    rw [if_neg c] at e1 e2
    by_cases d : i = p
    · rw [if_pos d] at e1 e2
      cases e1
      cases e2
      exact ⟨K, ew, fun c hc => more (hb c hc)⟩
    · rw [if_neg d] at e1 e2
      exact old (i - 1) e1 e2
  · unfold SetTable.fill
    rw [size, put_dm T.dm z]
    rfl
/-! all laid anew -/
theorem free_at {m j : Nat} (hm : MskP m) (owner : Array (Option Nat)) (h : Int) (hj : j ≤ m) (hf : oAt owner j = none) :
    ∃ K, SetTable.layClean.free m owner (SetTable.turns m) (SetTable.bits h % (m + 1)) (SetTable.bits h) = some (way m h K) ∧ oAt owner (way m h K) = none ∧ ∀ k, k < K → oAt owner (way m h k) ≠ none := by
  obtain ⟨n, hn, e⟩ := runs_to hm h hj
  generalize hO : off m (SetTable.bits h % (m + 1)) (SetTable.bits h) n = c
  have ec : way m h c = j := by
    unfold way
    rw [← hO, nth_off, itL_run]
    exact e
  obtain ⟨K, k1, k2, k3⟩ := st_least (p := fun k => oAt owner (way m h k) = none) c (by rw [ec]; exact hf)
  have isn : ∀ x : Option Nat, x ≠ none → x.isNone = false := fun x hx => by
    cases x with
    | none => exact absurd rfl hx
    | some _ => rfl
  exact ⟨K, free_spec m owner (SetTable.turns m) n _ _ K (by unfold SetTable.turns; omega) (by rw [hO]; exact k1) (fun k hk => isn _ (k3 k hk)) (by rw [show oAt owner (nth m (runAt m (SetTable.bits h % (m + 1)) (SetTable.bits h)) K).j = none from k2]; rfl), k2, k3⟩
theorem own_one {m : Nat} (hm : MskP m) {done : List Int} {owner : Array (Option Nat)} (W : Own m done owner) (room : done.length ≤ m) (h : Int) :
    ∃ j, SetTable.layClean.free m owner (SetTable.turns m) (SetTable.bits h % (m + 1)) (SetTable.bits h) = some j ∧ Own m (done ++ [h]) (owner.setIfInBounds j (some done.length)) := by
  obtain ⟨ps, lps, hin⟩ := W.ps
  obtain ⟨j0, h0, hn0⟩ := st_missing ps (m + 1) (by omega)
  have f0 : oAt owner j0 = none := Classical.not_not.mp fun c => hn0 (hin j0 (by omega) c)
  obtain ⟨K, e1, e2, e3⟩ := free_at hm owner h (by omega) f0
  have hw := way_in m h K
  generalize ew : way m h K = z at e1 e2 hw
  have self := oAt_set_self (owner := owner) (some done.length) (j := z) (by rw [W.sz]; omega)
  have kept : ∀ {i : Nat}, oAt owner i ≠ none → oAt (owner.setIfInBounds z (some done.length)) i ≠ none := fun {i} hi => by
    by_cases c : i = z
    · rw [c, self]
      exact fun e => nomatch e
    · rwa [oAt_set_ne _ c]
  refine ⟨z, e1, ⟨by rw [Array.size_setIfInBounds, W.sz], ?_, ?_, ?_⟩⟩
  · intro j k hj e
    by_cases c : j = z
    · subst c
      rw [self] at e
      cases e
      exact ⟨h, K, by rw [List.getElem?_append_right (Nat.le_refl _), Nat.sub_self]; rfl, ew, fun q hq => kept (e3 q hq)⟩
    · rw [oAt_set_ne _ c] at e
      obtain ⟨g, G, a1, a2, a3⟩ := W.at_ j k hj e
      exact ⟨g, G, by rw [List.getElem?_append_left (List.getElem?_eq_some_iff.mp a1).1, a1], a2, fun q hq => kept (a3 q hq)⟩
  · intro k hk
    rw [List.length_append] at hk
    have hk : k < done.length + 1 := hk
    by_cases c : k = done.length
    · exact ⟨z, hw, by rw [c]; exact self⟩
    · obtain ⟨j, hj, e⟩ := W.all k (by omega)
      refine ⟨j, hj, ?_⟩
      rw [oAt_set_ne _ (fun q => by rw [q, e2] at e; cases e), e]
  · refine ⟨z :: ps, by rw [List.length_cons, List.length_append, lps]; rfl, fun j hj e => ?_⟩
    by_cases c : j = z
    · rw [c]
      exact .head _
    · rw [oAt_set_ne _ c] at e
      exact .tail _ (hin j hj e)
theorem own_fold {m : Nat} (hm : MskP m) : ∀ (rest done : List Int) (owner : Array (Option Nat)), Own m done owner → done.length + rest.length ≤ m →
    ∃ o2, rest.foldl (stepF m) (some (owner, done.length)) = some (o2, (done ++ rest).length) ∧ Own m (done ++ rest) o2
  | [], done, owner, W, _ => by
    rw [List.append_nil]
    exact ⟨owner, rfl, W⟩
  | h :: rest, done, owner, W, room => by
    rw [List.length_cons] at room
    obtain ⟨j, e, V⟩ := own_one hm W (by omega) h
    have l1 : (done ++ [h]).length = done.length + 1 := by rw [List.length_append]; rfl
    obtain ⟨o2, f, V2⟩ := own_fold hm rest (done ++ [h]) _ V (by omega)
    rw [show done ++ [h] ++ rest = done ++ h :: rest by rw [List.append_assoc]; rfl, l1] at f
    rw [show done ++ [h] ++ rest = done ++ h :: rest by rw [List.append_assoc]; rfl] at V2
    refine ⟨o2, ?_, V2⟩
    rw [List.foldl_cons, stepF_some e, f]
theorem own_all {m : Nat} (hm : MskP m) {hs : Array Int} (room : hs.size ≤ m) : ∃ owner, SetTable.layClean m hs = some owner ∧ Own m hs.toList owner := by
  obtain ⟨owner, f, W⟩ := own_fold hm hs.toList [] _ (Own.init m) (by rw [Array.length_toList]; show 0 + hs.size ≤ m; omega)
  rw [List.nil_append] at f W
  refine ⟨owner, ?_, W⟩
  have f2 : hs.toList.foldl (stepF m) (some (Array.replicate (m + 1) none, 0)) = _ := f
  rw [layClean_eq, f2]
  rfl
/-- what laying anew leaves -/
structure NewG (t t' : SetTable) (order : Array Nat) (hs : Array Int) (M : Nat) : Prop where
  perm : order.toList.Perm (List.range hs.size)
  tab : TabG t' (order.toList.map fun i => hs.getD i 0)
  mask : t'.mask = M
theorem new_all (t : SetTable) {hs : Array Int} {wanted M : Nat} (hw : SetTable.sizeAbove wanted - 1 = M) (hM : MskP M) (room : hs.size ≤ M) : ∃ t' order, t.relaid hs wanted = some (t', order) ∧ NewG t t' order hs M := by
  obtain ⟨owner, e, W⟩ := own_all hM room
  have hr : t.relaid hs wanted = some (tabOf t M owner, ((liveOf M owner).map (·.2)).toArray) := by
    rw [relaid_eq, hw, e]
    rfl
  obtain ⟨r1, r2⟩ := ris_live (fun j => owner.getD j none) (List.range (M + 1)) List.pairwise_lt_range
  have r1 : Ris ((liveOf M owner).map (·.1)) := r1
  have len : (liveOf M owner).length = hs.size := by
    obtain ⟨ps, p1, p2⟩ := W.ps
    have nd : ((liveOf M owner).map (·.1)).Nodup := List.Pairwise.imp (fun h => Nat.ne_of_lt h) r1
    have up := nat_nodup_len ((liveOf M owner).map (·.1)) ps nd fun x hx => by
      obtain ⟨⟨y, k⟩, hq, rfl⟩ := List.mem_map.mp hx
      obtain ⟨b1, b2⟩ := (mem_live W.sz).1 hq
      exact p2 y b1 (by rw [b2]; exact fun z => nomatch z)
    have dn := nat_nodup_len (List.range hs.size) ((liveOf M owner).map (·.2)) List.nodup_range fun k hk => by
      obtain ⟨j, b1, b2⟩ := W.all k (by rw [Array.length_toList]; exact List.mem_range.mp hk)
      exact List.mem_map.mpr ⟨(j, k), (mem_live W.sz).2 ⟨b1, b2⟩, rfl⟩
    rw [List.length_map, p1] at up
    rw [List.length_map, List.length_range] at dn
    have hz : hs.toList.length = hs.size := rfl
    omega
  refine ⟨_, _, hr, ⟨perm_range hs.size _ (by rw [List.length_map]; exact len) fun k hk => ?_, ⟨r1, rfl, ?_, hM, ?_, ?_⟩, rfl⟩⟩
  · obtain ⟨j, b1, b2⟩ := W.all k (by rw [Array.length_toList]; exact hk)
    exact List.mem_map.mpr ⟨(j, k), (mem_live W.sz).2 ⟨b1, b2⟩, rfl⟩
  · unfold tabOf
    dsimp only
    rw [List.size_toArray, List.length_map, List.length_map, List.length_map]
  · intro x hx
    exact Nat.le_of_lt_succ (List.mem_range.mp (r2 x hx))
  · intro i h j e1 e2
    have e1 : (((liveOf M owner).map (·.2)).map fun i => hs.getD i 0)[i]? = some h := e1
    have e2 : ((liveOf M owner).map (·.1))[i]? = some j := e2
    rw [List.getElem?_map] at e2
    obtain ⟨⟨y, k⟩, hq, rfl⟩ := Option.map_eq_some_iff.mp e2
    rw [List.getElem?_map, List.getElem?_map, hq] at e1
    obtain rfl : hs.getD k 0 = h := Option.some.inj e1
    obtain ⟨b1, b2⟩ := (mem_live W.sz).1 (List.mem_of_getElem? hq)
    obtain ⟨g, G, a1, a2, a3⟩ := W.at_ y k b1 b2
    have eg : hs.getD k 0 = g := by
      rw [Array.getElem?_toList] at a1
      rw [Array.getD_eq_getD_getElem?, a1]
      rfl
    rw [eg]
    refine ⟨G, a2, fun c hc => ?_⟩
    show way M g c ∈ (liveOf M owner).map (·.1)
    cases z : oAt owner (way M g c) with
    | none => exact absurd z (a3 c hc)
    | some k2 => exact List.mem_map.mpr ⟨(way M g c, k2), (mem_live W.sz).2 ⟨way_in M g c, z⟩, rfl⟩
/-! the size that is taken -/
theorem above_go : ∀ (f k n : Nat), n < 2 ^ (k + f) → ∃ c, k ≤ c ∧ SetTable.sizeAbove.go n f (2 ^ k) = 2 ^ c ∧ n < 2 ^ c ∧ (c = k ∨ 2 ^ c ≤ 2 * n)
  | 0, k, n, h => ⟨k, Nat.le_refl _, rfl, h, .inl rfl⟩
  | f + 1, k, n, h => by
    unfold SetTable.sizeAbove.go
    by_cases c : 2 ^ k ≤ n
    · rw [if_pos c, show 2 ^ k * 2 = 2 ^ (k + 1) from (Nat.pow_succ ..).symm]
      obtain ⟨d, h1, h2, h3, h4⟩ := above_go f (k + 1) n (by rw [show k + 1 + f = k + (f + 1) by omega]; exact h)
      refine ⟨d, by omega, h2, h3, .inr ?_⟩
      rcases h4 with rfl | h4
      · rw [Nat.pow_succ]
        omega
      · exact h4
    · rw [if_neg c]
      exact ⟨k, Nat.le_refl _, rfl, by omega, .inl rfl⟩
theorem above_is {n : Nat} (h : n ≤ 1000000) : MskP (SetTable.sizeAbove n - 1) ∧ n ≤ SetTable.sizeAbove n - 1 ∧ SetTable.sizeAbove n ≤ 2 * n + 8 := by
  obtain ⟨c, h1, h2, h3, h4⟩ := above_go 64 3 n (Nat.lt_of_le_of_lt h (by decide))
  have e : SetTable.sizeAbove n = 2 ^ c := h2
  rw [e]
  refine ⟨⟨c, h1, by omega⟩, by omega, ?_⟩
  rcases h4 with rfl | h4
  · omega
  · omega
end My

set_option Elab.async false
set_option maxRecDepth 100000
set_option maxHeartbeats 4000000
set_option linter.all false
/-! How often a search meets given slots. -/
namespace My
open PySem PySem.Spec PyProof.Rows L2
abbrev offW (m : Nat) (h : Int) (n : Nat) : Nat := off m (SetTable.bits h % (m + 1)) (SetTable.bits h) n
abbrev strt (m : Nat) (h : Int) (n : Nat) : Nat := runI m (SetTable.bits h) n
theorem off_run (m : Nat) (h : Int) (n k : Nat) (hk : k ≤ SetTable.runEnd m (strt m h n) - strt m h n) : way m h (offW m h n + k) = strt m h n + k := by
  unfold way
  rw [nth_add, nth_off, itL_run]
  dsimp only
  rw [nth_run m _ _ k hk]
theorem off_next (m : Nat) : ∀ (n i b : Nat), off m i b (n + 1) = off m i b n + (SetTable.runEnd m (itL m i b n).1 - (itL m i b n).1 + 1)
  | 0, i, b => by
    show SetTable.runEnd m i - i + 1 + off m _ _ 0 = off m i b 0 + (SetTable.runEnd m i - i + 1)
    show SetTable.runEnd m i - i + 1 + 0 = 0 + (SetTable.runEnd m i - i + 1)
    omega
  | n + 1, i, b => by
    have ih := off_next m n (SetTable.leap m i b).1 (SetTable.leap m i b).2
    show SetTable.runEnd m i - i + 1 + off m (SetTable.leap m i b).1 (SetTable.leap m i b).2 (n + 1) = SetTable.runEnd m i - i + 1 + off m (SetTable.leap m i b).1 (SetTable.leap m i b).2 n + _
    rw [ih]
    show _ = _ + (SetTable.runEnd m (itL m (SetTable.leap m i b).1 (SetTable.leap m i b).2 n).1 - (itL m (SetTable.leap m i b).1 (SetTable.leap m i b).2 n).1 + 1)
    omega
theorem strt_bd (m : Nat) (h : Int) (n : Nat) : SetTable.runEnd m (strt m h n) ≤ m ∧ strt m h n ≤ SetTable.runEnd m (strt m h n) ∧ SetTable.runEnd m (strt m h n) ≤ strt m h n + 9 := runEnd_bd (runI_le m (SetTable.bits h) n)
theorem offW_next (m : Nat) (h : Int) (n : Nat) : offW m h (n + 1) = offW m h n + (SetTable.runEnd m (strt m h n) - strt m h n + 1) := by
  unfold offW
  rw [off_next, itL_run]
/-- the steps from a on, before b, that meet one of these slots -/
def mets (m : Nat) (h : Int) (S : List Nat) (a n : Nat) : Nat := ((List.range' a n).filter fun c => decide (way m h c ∈ S)).length
theorem mets_split (m : Nat) (h : Int) (S : List Nat) (a n k : Nat) : mets m h S a (n + k) = mets m h S a n + mets m h S (a + n) k := by
  unfold mets
  rw [← List.range'_append_1, List.filter_append, List.length_append]
/-- those of a list within ten from s on -/
def near (S : List Nat) (s : Nat) : Nat := (S.filter fun x => decide (s ≤ x ∧ x ≤ s + 9)).length
theorem near_ten {S : List Nat} (hn : S.Nodup) (s : Nat) : near S s ≤ 10 := by
  have := nat_nodup_len (S.filter fun x => decide (s ≤ x ∧ x ≤ s + 9)) (List.range' s 10) (hn.filter _) fun x hx => by
    have := of_decide_eq_true (List.mem_filter.mp hx).2
    rw [List.mem_range'_1]
    omega
  rwa [List.length_range'] at this
theorem run_mets {m : Nat} (h : Int) {S : List Nat} (hS : ∀ x ∈ S, x ≤ m) (n : Nat) : mets m h S (offW m h n) (SetTable.runEnd m (strt m h n) - strt m h n + 1) ≤ near S (strt m h n) := by
  have hr := strt_bd m h n
  have := nat_nodup_len ((((List.range' (offW m h n) (SetTable.runEnd m (strt m h n) - strt m h n + 1)).filter fun c => decide (way m h c ∈ S))).map (way m h)) (S.filter fun x => decide (strt m h n ≤ x ∧ x ≤ strt m h n + 9)) ?_ ?_
  · rw [List.length_map] at this
    exact this
  · rw [List.nodup_iff_pairwise_ne, List.pairwise_map]
    refine List.Pairwise.imp_of_mem ?_ (List.Pairwise.filter _ (List.pairwise_lt_range' ..))
    intro a b ha hb hlt e
    have ha := List.mem_range'_1.mp (List.mem_filter.mp ha).1
    have hb := List.mem_range'_1.mp (List.mem_filter.mp hb).1
    rw [show a = offW m h n + (a - offW m h n) by omega, show b = offW m h n + (b - offW m h n) by omega, off_run m h n _ (by omega), off_run m h n _ (by omega)] at e
    omega
  · intro x hx
    obtain ⟨c, hc, rfl⟩ := List.mem_map.mp hx
    have hc := List.mem_filter.mp hc
    have h1 := List.mem_range'_1.mp hc.1
    refine List.mem_filter.mpr ⟨of_decide_eq_true hc.2, decide_eq_true ?_⟩
    rw [show c = offW m h n + (c - offW m h n) by omega, off_run m h n _ (by omega)]
    omega
theorem to_mets {m : Nat} (h : Int) {S : List Nat} (hS : ∀ x ∈ S, x ≤ m) : ∀ n, mets m h S 0 (offW m h n) ≤ ((List.range n).map fun r => near S (strt m h r)).sum
  | 0 => Nat.le_of_eq rfl
  | n + 1 => by
    rw [offW_next, mets_split, Nat.zero_add, List.range_succ, List.map_append, List.sum_append]
    have a := to_mets h hS n
    have b := run_mets h hS n
    show _ ≤ _ + (near S (strt m h n) + 0)
    omega
theorem sum_le {l : List Nat} {b : Nat} (h : ∀ x ∈ l, x ≤ b) : l.sum ≤ l.length * b := by
  induction l with
  | nil => exact Nat.zero_le _
  | cons x l ih =>
    rw [List.sum_cons, List.length_cons, Nat.add_mul, Nat.one_mul]
    have := ih fun y hy => h y (.tail _ hy)
    have := h x (.head _)
    omega
theorem strt_inj {m : Nat} (hm : MskP m) (h : Int) {a b : Nat} (hab : a < b) (hb : b ≤ m) : strt m h (12 + a) ≠ strt m h (12 + b) := by
  intro e
  unfold strt at e
  rw [runI_tail (bits_lt h), runI_tail (bits_lt h)] at e
  obtain ⟨z, _, ez⟩ := cyc_all hm (runI_le m (SetTable.bits h) 12)
  rw [← ez, lcgN_add, lcgN_add] at e
  have := fv_inj (a := z + a) (c := b - a) hm (by omega) (by rw [show b - a + (z + a) = z + b by omega]; exact e.symm)
  omega
/-- a slot is within few of the later runs -/
theorem one_near {m : Nat} (hm : MskP m) (h : Int) (x n : Nat) (hn : n ≤ m) : ((List.range n).filter fun r => decide (strt m h (12 + r) ≤ x ∧ x ≤ strt m h (12 + r) + 9)).length ≤ 10 := by
  have := nat_nodup_len (((List.range n).filter fun r => decide (strt m h (12 + r) ≤ x ∧ x ≤ strt m h (12 + r) + 9)).map fun r => strt m h (12 + r)) (List.range' (x - 9) 10) ?_ ?_
  · rwa [List.length_map, List.length_range'] at this
  · rw [List.nodup_iff_pairwise_ne, List.pairwise_map]
    refine List.Pairwise.imp_of_mem ?_ (List.Pairwise.filter _ List.pairwise_lt_range)
    intro a b ha hb hlt
    have hb := List.mem_range.mp (List.mem_filter.mp hb).1
    exact strt_inj hm h hlt (by omega)
  · intro y hy
    obtain ⟨r, hr, rfl⟩ := List.mem_map.mp hy
    have := of_decide_eq_true (List.mem_filter.mp hr).2
    rw [List.mem_range'_1]
    omega
theorem sum_near {m : Nat} (hm : MskP m) (h : Int) {n : Nat} (hn : n ≤ m) : ∀ S : List Nat, ((List.range n).map fun r => near S (strt m h (12 + r))).sum ≤ 10 * S.length
  | [] => by
    have : ((List.range n).map fun r => near [] (strt m h (12 + r))).sum ≤ _ := sum_le (b := 0) fun x hx => by
      obtain ⟨r, _, rfl⟩ := List.mem_map.mp hx
      exact Nat.le_refl _
    rw [Nat.mul_zero] at this
    exact Nat.le_trans this (Nat.zero_le _)
  | x :: S => by
    have ih := sum_near hm h hn S
    have one := one_near hm h x n hn
    have split : ∀ l : List Nat, (l.map fun r => near (x :: S) (strt m h (12 + r))).sum = (l.filter fun r => decide (strt m h (12 + r) ≤ x ∧ x ≤ strt m h (12 + r) + 9)).length + (l.map fun r => near S (strt m h (12 + r))).sum := by
      intro l
      induction l with
      | nil => rfl
      | cons r l ih =>
        rw [List.map_cons, List.map_cons, List.sum_cons, List.sum_cons, ih, List.filter_cons]
        have : near (x :: S) (strt m h (12 + r)) = (if strt m h (12 + r) ≤ x ∧ x ≤ strt m h (12 + r) + 9 then 1 else 0) + near S (strt m h (12 + r)) := by
          unfold near
          rw [List.filter_cons]
          by_cases c : strt m h (12 + r) ≤ x ∧ x ≤ strt m h (12 + r) + 9
          · rw [if_pos (decide_eq_true c), if_pos c, List.length_cons]
            omega
          · rw [if_neg (by rw [decide_eq_true_iff]; exact c), if_neg c, Nat.zero_add]
        rw [this]
        by_cases c : strt m h (12 + r) ≤ x ∧ x ≤ strt m h (12 + r) + 9
        · rw [if_pos c, if_pos (decide_eq_true c), List.length_cons]
          omega
        · rw [if_neg c, if_neg (by rw [decide_eq_true_iff]; exact c)]
          omega
    rw [split, List.length_cons]
    omega
/-- how often these slots are met before the n-th run -/
theorem few_mets {m : Nat} (hm : MskP m) (h : Int) {S : List Nat} (nd : S.Nodup) (hS : ∀ x ∈ S, x ≤ m) {n K : Nat} (hn : n ≤ m + 12) (hK : K ≤ offW m h n) : mets m h S 0 K ≤ 120 + 10 * S.length := by
  have up : mets m h S 0 K ≤ mets m h S 0 (offW m h n) := by
    rw [show offW m h n = K + (offW m h n - K) by omega, mets_split]
    omega
  have mono : ∀ a b, a ≤ b → ((List.range a).map fun r => near S (strt m h r)).sum ≤ ((List.range b).map fun r => near S (strt m h r)).sum := fun a b hab => by
    obtain ⟨d, rfl⟩ := Nat.exists_eq_add_of_le hab
    rw [List.range_add, List.map_append, List.sum_append]
    omega
  have h2 := to_mets h hS n
  have h3 := mono n (12 + m) (by omega)
  rw [List.range_add, List.map_append, List.sum_append, List.map_map] at h3
  have h4 : ((List.range 12).map fun r => near S (strt m h r)).sum ≤ 12 * 10 := by
    have := sum_le (l := (List.range 12).map fun r => near S (strt m h r)) (b := 10) fun x hx => by
      obtain ⟨r, _, rfl⟩ := List.mem_map.mp hx
      exact near_ten nd _
    rwa [List.length_map, List.length_range] at this
  have h5 := sum_near hm h (n := m) (Nat.le_refl _) S
  have h6 : ((List.range m).map ((fun r => near S (strt m h r)) ∘ fun x => 12 + x)).sum = ((List.range m).map fun r => near S (strt m h (12 + r))).sum := rfl
  omega
/-- the first empty slot, not too far -/
theorem TabG.near {t : SetTable} {hs : List Int} (T : TabG t hs) (room : hs.length ≤ t.mask) (h : Int) : ∃ K n, n ≤ t.mask + 12 ∧ K ≤ offW t.mask h n ∧ K < 10 * SetTable.turns t.mask ∧ way t.mask h K ∉ t.place.toList ∧ ∀ k, k < K → way t.mask h k ∈ t.place.toList := by
  obtain ⟨j, hj, hn⟩ := st_missing t.place.toList (t.mask + 1) (by rw [T.len]; omega)
  obtain ⟨n, ln, e⟩ := runs_to T.mok h (Nat.le_of_lt_succ hj)
  have ej : way t.mask h (offW t.mask h n) = j := by
    have := off_run t.mask h n 0 (Nat.zero_le _)
    rw [Nat.add_zero, Nat.add_zero] at this
    rw [this]
    exact e
  have ol : ∀ n, offW t.mask h n ≤ 10 * n := fun n => by
    induction n with
    | zero => exact Nat.le_refl _
    | succ n ih =>
      rw [offW_next]
      have := strt_bd t.mask h n
      omega
  obtain ⟨K, h1, h2, h3⟩ := st_least (p := fun k => way t.mask h k ∉ t.place.toList) (offW t.mask h n) (by rw [ej]; exact hn)
  have := ol n
  exact ⟨K, n, ln, h1, by unfold SetTable.turns; omega, h2, fun c hc => Classical.not_not.mp (h3 c hc)⟩
end My

set_option Elab.async false
set_option maxRecDepth 100000
set_option maxHeartbeats 4000000
set_option linter.all false
/-! Sets of tuples, nested to any depth, of many. -/
namespace My
open PySem PySem.Spec PyProof.Rows L2
abbrev IsN (P : Program) (w : World) (h : Heap) (k : NestedKey) (a : Addr) : Prop := (nestedKind P w).is h k a
theorem nested_mem {h : Heap} : ∀ {ks : List NestedKey} {vs : List Value}, NestedAll h ks vs → ∀ v ∈ vs, ∃ k, NestedIs h k v ∧ k.depth ≤ NestedKey.depthAll ks
  | _, _, .nil, _, hv => nomatch hv
  | k :: ks, _, .cons a b, v, hv => by
    have hd : NestedKey.depthAll (k :: ks) = max k.depth (NestedKey.depthAll ks) := by simp only [NestedKey.depthAll]
    rcases List.mem_cons.mp hv with rfl | hv
    · exact ⟨k, a, by omega⟩
    · obtain ⟨j, x, y⟩ := nested_mem b v hv
      exact ⟨j, x, by omega⟩
section
variable {P : Program} {w : World} {A : Around} {E : Value → Shared → Prop} {s : Shared}
theorem ofA_key : ∀ (n : Nat) {k : NestedKey} {v : Value} {s : Shared} {Q : Bool → Shared → Prop}, NestedIs s.heap k v → k.depth ≤ n → Q false s → wpAny (model P w) A (ofAClassStatement n v) Q E s := by
  intro n
  induction n with
  | zero =>
    intro k v s Q hk hn h
    cases hk with
    | tup => simp only [NestedKey.depth] at hn; omega
    | _ => exact wpAny_pure h
  | succ n ih =>
    intro k v s Q hk hn h
    cases hk with
    | @tup a o vs m ks ho hc hd hi =>
      simp only [NestedKey.depth] at hn
      unfold ofAClassStatement
      refine wpAny_bind (wpAny_typeOf (T := "tuple") ⟨o, ho, hc⟩ ?_)
      dsimp only
      simp only [show (("tuple" : String) == "tuple") = true by decide, if_true, Bool.not_true, Bool.false_eq_true, if_false]
      try refine wpAny_bind (wpAny_pure ?_)
      try simp only [Bool.not_true, Bool.false_eq_true, if_false]
      show wpAny _ _ (seqItems? (.ref a) >>= _) _ _ s
      refine wpAny_bind (wpAny_seqItems ho hd ?_)
      dsimp only
      refine wpAny_bind ?_
      show wpAny _ _ (forIn vs _ _) _ _ s
      rw [← Array.forIn_toList]
      refine wpAny_forIn_list _ (fun rest r s' => r.1 = none ∧ s' = s ∧ ∀ v ∈ rest, ∃ k, NestedIs s.heap k v ∧ k.depth ≤ n) _ ?_ ?_ _ _ ⟨rfl, rfl, fun v hv => ?_⟩
      · rintro v rest r s' ⟨hr, rfl, hall⟩
        obtain ⟨k, hk, hd2⟩ := hall v (.head _)
        refine wpAny_bind (ih hk hd2 ?_)
        simp only [Bool.false_eq_true, if_false]
        exact wpAny_pure ⟨rfl, rfl, fun u hu => hall u (.tail _ hu)⟩
      · rintro ⟨r1, r2⟩ s' ⟨hr, rfl, _⟩
        simp only at hr
        subst hr
        exact wpAny_pure h
      · obtain ⟨k, x, y⟩ := nested_mem hi v hv
        exact ⟨k, x, by omega⟩
    | _ => exact wpAny_pure h
theorem hashV_key : ∀ (n : Nat) {k : NestedKey} {v : Value} {s : Shared} {Q : Bool → Shared → Prop}, NestedIs s.heap k v → (∀ b, Q b s) → wpAny (model P w) A (hashByValue n v) Q E s := by
  intro n
  induction n with
  | zero =>
    intro k v s Q hk h
    cases hk with
    | _ => exact wpAny_pure (h _)
  | succ n ih =>
    intro k v s Q hk h
    cases hk with
    | @tup a o vs m ks ho hc hd hi =>
      unfold hashByValue
      refine wpAny_bind (wpAny_specialOf (T := "tuple") ⟨o, ho, hc⟩ F.slot_tuple_hash.lookup ?_)
      show wpAny _ _ (seqItems? (.ref a) >>= _) _ _ s
      refine wpAny_bind (wpAny_seqItems ho hd ?_)
      refine wpAny_bind ?_
      show wpAny _ _ (forIn vs _ _) _ _ s
      rw [← Array.forIn_toList]
      refine wpAny_forIn_list _ (fun rest r s' => r.1 = none ∧ s' = s ∧ ∀ v ∈ rest, ∃ k, NestedIs s.heap k v) _ ?_ ?_ _ _ ⟨rfl, rfl, fun v hv => ?_⟩
      · rintro v rest r s' ⟨hr, rfl, hall⟩
        obtain ⟨k, hk⟩ := hall v (.head _)
        refine wpAny_bind (ih hk fun b => ?_)
        cases b
        · simp only [Bool.not_false, if_true]
          exact wpAny_pure (wpAny_pure (h _))
        · simp only [Bool.not_true, Bool.false_eq_true, if_false]
          exact wpAny_pure ⟨rfl, rfl, fun u hu => hall u (.tail _ hu)⟩
      · rintro ⟨r1, r2⟩ s' ⟨hr, rfl, _⟩
        simp only at hr
        subst hr
        exact wpAny_pure (h _)
      · obtain ⟨k, x, _⟩ := nested_mem hi v hv
        exact ⟨k, x⟩
    | _ => exact wpAny_pure (h _)
theorem seen_key {k : NestedKey} {b : Addr} {Q : Bool → Shared → Prop} (hk : IsN P w s.heap k b) {ys : List Value} (hy : ∀ y ∈ ys, ∃ j c, y = Value.ref c ∧ IsN P w s.heap j c) (h : Q false s) : wpAny (model P w) A (searchCouldBeSeen (.ref b) ys) Q E s := by
  unfold searchCouldBeSeen
  refine wpAny_bind ?_
  refine wpAny_forIn_list _ (fun rest r s' => r.1 = none ∧ s' = s ∧ ∀ y ∈ rest, ∃ j c, y = Value.ref c ∧ IsN P w s.heap j c) _ ?_ ?_ _ _ ⟨rfl, rfl, hy⟩
  · rintro v rest r s' ⟨hr, rfl, hall⟩
    obtain ⟨j, c, rfl, hc⟩ := hall v (.head _)
    have more : ∀ y ∈ rest, ∃ j c, y = Value.ref c ∧ IsN P w s'.heap j c := fun u hu => hall u (.tail _ hu)
    dsimp only
    by_cases hv : (b == c || (carriedByValue (.ref b) && carriedByValue (.ref c))) = true
    · exact wp_if_pos hv (wpAny_pure ⟨rfl, rfl, more⟩)
    · refine wp_if_neg hv ?_
      refine wpAny_bind ((nestedKind P w).quiet hk ?_)
      simp only [Bool.not_true, Bool.false_eq_true, if_false]
      refine wpAny_bind ((nestedKind P w).quiet hc ?_)
      simp only [Bool.not_true, Bool.false_eq_true, if_false]
      refine wpAny_bind (ofA_key 8 hk.1 hk.2 ?_)
      simp only [Bool.false_eq_true, if_false]
      refine wpAny_bind (ofA_key 8 hc.1 hc.2 ?_)
      simp only [Bool.false_eq_true, if_false]
      exact wpAny_pure ⟨rfl, rfl, more⟩
  · rintro ⟨r1, r2⟩ s' ⟨hr, rfl, _⟩
    simp only at hr
    subst hr
    exact wpAny_pure h
end
/-! the set -/
abbrev NK := Addr × NestedKey
def rowN (w : World) (L : List NK) : List (Int × Value) := L.map fun p => (p.2.hash w, Value.ref p.1)
abbrev hshN (w : World) (L : List NK) : List Int := L.map fun p => p.2.hash w
/-- few of these have the same hash -/
def FewN (w : World) (ks : List NestedKey) : Prop := ∀ (l : List NestedKey) (h : Int), l.Nodup → (∀ k ∈ l, k ∈ ks ∧ k.hash w = h) → l.length ≤ 8192
structure SetG (P : Program) (w : World) (h : Heap) (a : Addr) (L : List NK) (es : Array (Int × Value)) (ep : Nat) (t : SetTable) : Prop where
  ob : ∃ o, h.get? a = some o ∧ o.ExactSet ∧ o.data = .set es ep t
  rows : es.toList = rowN w L
  tab : TabG t (hshN w L)
  nd : (L.map (·.2)).Nodup
  tup : ∀ p ∈ L, IsN P w h p.2 p.1
  room : L.length * 5 < t.mask * 3
  few : L.length ≤ 99000
  col : FewN w (L.map (·.2))
section
variable {P : Program} {w : World} {A : Around} {E : Value → Shared → Prop} {s : Shared} {a : Addr} {L : List NK} {es : Array (Int × Value)} {ep : Nat} {t : SetTable} {h : Heap}
theorem rowN_len (w : World) (L : List NK) : (rowN w L).length = L.length := by
  unfold rowN
  rw [List.length_map]
theorem SetG.size (R : SetG P w h a L es ep t) : es.size = L.length := by rw [← Array.length_toList, R.rows, rowN_len]
theorem SetG.fits (R : SetG P w h a L es ep t) : t.fits es.size = true := by
  have h1 := R.tab.sz
  have h2 := R.size
  have h3 := R.room
  rw [List.length_map] at h1
  unfold SetTable.fits SetTable.fill
  rw [R.tab.dm, Bool.and_eq_true, beq_iff_eq, decide_eq_true_eq]
  exact ⟨by omega, by show t.place.size + 0 ≤ t.mask; omega⟩
theorem SetG.entry (R : SetG P w h a L es ep t) {i : Nat} {p : NK} (e : L[i]? = some p) : es[i]? = some (p.2.hash w, Value.ref p.1) := by
  rw [← Array.getElem?_toList, R.rows]
  unfold rowN
  rw [List.getElem?_map, e]
  rfl
theorem SetG.odd (R : SetG P w h a L es ep t) : ¬ t.gaveWay = true := by
  unfold SetTable.gaveWay
  rw [msk_odd R.tab.mok]
  decide
/-- the slots of those with this hash -/
def slotsN (w : World) (L : List NK) (t : SetTable) (g : Int) : List Nat := (List.zip t.place.toList (hshN w L)).filterMap fun p => if p.2 = g then some p.1 else none
theorem mem_slotsN {g : Int} {j : Nat} : j ∈ slotsN w L t g ↔ ∃ i : Nat, t.place.toList[i]? = some j ∧ (hshN w L)[i]? = some g := by
  unfold slotsN
  rw [List.mem_filterMap]
  constructor
  · rintro ⟨⟨x, y⟩, hm, e⟩
    obtain ⟨i, hi⟩ := List.mem_iff_getElem?.mp hm
    rw [List.getElem?_zip_eq_some] at hi
    by_cases c : y = g
    · rw [if_pos c] at e
      cases e
      exact ⟨i, hi.1, c ▸ hi.2⟩
    · rw [if_neg c] at e
      cases e
  · rintro ⟨i, h1, h2⟩
    exact ⟨(j, g), List.mem_iff_getElem?.mpr ⟨i, List.getElem?_zip_eq_some.mpr ⟨h1, h2⟩⟩, if_pos rfl⟩
theorem slotsN_sub (g : Int) : ∀ (ps : List Nat) (hs : List Int), ((List.zip ps hs).filterMap fun p => if p.2 = g then some p.1 else none).Sublist ps
  | [], hs => by rw [List.zip_nil_left]; exact .slnil
  | p :: ps, [] => by rw [List.zip_nil_right]; exact List.nil_sublist _
  | p :: ps, x :: hs => by
    rw [List.zip_cons_cons, List.filterMap_cons]
    by_cases c : x = g
    · rw [if_pos c]
      exact (slotsN_sub g ps hs).cons₂ p
    · rw [if_neg c]
      exact (slotsN_sub g ps hs).cons p
theorem slotsN_len (g : Int) : ∀ (ps : List Nat) (L : List NK), ((List.zip ps (hshN w L)).filterMap fun p => if p.2 = g then some p.1 else none).length ≤ (L.filter fun p => decide (p.2.hash w = g)).length
  | [], L => by rw [List.zip_nil_left]; exact Nat.zero_le _
  | p :: ps, [] => Nat.zero_le _
  | p :: ps, x :: L => by
    have ih := slotsN_len g ps L
    show ((List.zip (p :: ps) (x.2.hash w :: hshN w L)).filterMap _).length ≤ _
    rw [List.zip_cons_cons, List.filterMap_cons, List.filter_cons]
    by_cases c : x.2.hash w = g
    · rw [if_pos c, if_pos (decide_eq_true c), List.length_cons, List.length_cons]
      omega
    · rw [if_neg c, if_neg (by rw [decide_eq_true_iff]; exact c)]
      exact ih
theorem SetG.slots (R : SetG P w h a L es ep t) (g : Int) : (slotsN w L t g).Nodup ∧ (∀ x ∈ slotsN w L t g, x ≤ t.mask) ∧ (slotsN w L t g).length ≤ 8192 := by
  have sub : (slotsN w L t g).Sublist t.place.toList := slotsN_sub g _ _
  refine ⟨List.Sublist.nodup sub (List.Pairwise.imp (fun h => Nat.ne_of_lt h) R.tab.ris), fun x hx => R.tab.bd x (sub.subset hx), ?_⟩
  refine Nat.le_trans (slotsN_len g _ L) ?_
  have := R.col ((L.filter fun p => decide (p.2.hash w = g)).map (·.2)) g (List.Sublist.nodup (List.filter_sublist.map _) R.nd) fun k hk => by
    obtain ⟨p, hp, rfl⟩ := List.mem_map.mp hk
    obtain ⟨h1, h2⟩ := List.mem_filter.mp hp
    exact ⟨List.mem_map.mpr ⟨p, h1, rfl⟩, of_decide_eq_true h2⟩
  rwa [List.length_map] at this
theorem dummy_none (m : Nat) (g : Int) : ∀ c, (nth m (runAt m (SetTable.bits g % (m + 1)) (SetTable.bits g)) c).dummy = none
  | 0 => rfl
  | c + 1 => by
    rw [nth_succ]
    have := dummy_none m g c
    unfold adv
    split
    · exact this
    · exact this
abbrev stp (m : Nat) (g : Int) (c : Nat) : SetTable.Probe := nth m (runAt m (SetTable.bits g % (m + 1)) (SetTable.bits g)) c
/-- the search, from the c-th step on -/
theorem SetG.from (R : SetG P w s.heap a L es ep t) {x : Addr} {k : NestedKey} (hx : IsN P w s.heap k x) (hu : A.units + 8 < cLine) {K : Nat} (hKf : K < 10 * SetTable.turns t.mask)
    (hK : way t.mask (k.hash w) K ∉ t.place.toList) (hKb : ∀ c, c < K → way t.mask (k.hash w) c ∈ t.place.toList) {Q : SetFound → Shared → Prop}
    (hin : k ∈ L.map (·.2) → Q (.there none) s) (hout : k ∉ L.map (·.2) → Q (.free (way t.mask (k.hash w) K) false) s) :
    ∀ (f c : Nat) (stand : Option SetTable.Probe), stand.getD (t.probeStart (k.hash w)) = stp t.mask (k.hash w) c → c ≤ K → mets t.mask (k.hash w) (slotsN w L t (k.hash w)) c (K - c) < f →
      (∀ (i : Nat) p, L[i]? = some p → p.2 = k → ∃ c', c ≤ c' ∧ c' < K ∧ t.place.toList[i]? = some (way t.mask (k.hash w) c')) →
      wpAny (model P w) A (setSearchFrom a (.ref x) (k.hash w) true f stand) Q E s
  | 0, c, stand, _, _, hf, _ => absurd hf (Nat.not_lt_zero _)
  | f + 1, c, stand, hst, hc, hf, hre => by
    obtain ⟨o, ho, hex, hd⟩ := R.ob
    generalize hg : k.hash w = g at *
    rw [setSearchFrom_succ]
    refine wpAny_bind (wpAny_setState_of ho hd R.fits ?_)
    dsimp only
    refine wp_if_neg R.odd ?_
    try refine wpAny_bind (wpAny_pure ?_)
    have sh : ∀ q, nth t.mask (stp t.mask g c) q = stp t.mask g (c + q) := fun q => (nth_add t.mask c _ q).symm
    have shj : ∀ q, (nth t.mask (stp t.mask g c) q).j = way t.mask g (c + q) := fun q => congrArg SetTable.Probe.j (sh q)
    have spec := go_spec t R.tab.ris R.tab.dm (fun i => (es[i]?.map (·.1)).getD 0) g (10 * SetTable.turns t.mask) (K - c) _ (dummy_none t.mask g c) (by omega)
      (fun q hq => by rw [shj]; exact hKb (c + q) (by omega)) (by rw [shj, Nat.add_sub_cancel' hc]; exact hK)
    have hashAt : ∀ (i : Nat) p, L[i]? = some p → (es[i]?.map (·.1)).getD 0 = p.2.hash w := fun i p hp => by
      rw [R.entry hp]
      rfl
    rcases spec with ⟨q, i, hq, hi, hh, hno, hpr⟩ | ⟨hno, hpr⟩
    · have hpr2 : t.probe (fun i => (es[i]?.map (·.1)).getD 0) g (stand.getD (t.probeStart g)) = some (.candidate (way t.mask g (c + q)) i (stp t.mask g (c + (q + 1)))) := by
        rw [hst, ← shj, ← sh]
        exact hpr
      rw [hpr2]
      dsimp only
      rw [shj] at hi
      have hil : i < L.length := by
        have h1 := (List.getElem?_eq_some_iff.mp hi).1
        rw [R.tab.len, List.length_map] at h1
        exact h1
      obtain ⟨p, hp⟩ : ∃ p, L[i]? = some p := ⟨_, List.getElem?_eq_getElem hil⟩
      have hmem : p ∈ L := List.mem_of_getElem? hp
      have hpt := R.tup p hmem
      have hpg : p.2.hash w = g := (hashAt i p hp).symm.trans hh
      have rest : wpAny (model P w) A (searchRest a (.ref x) g true f es t (way t.mask g (c + q)) i (stp t.mask g (c + (q + 1)))) Q E s := by
        unfold searchRest
        rw [R.entry hp]
        dsimp only
        refine wpAny_bind (wpAny_holding ((nestedKind P w).eqBool hu hpt hx ?_))
        refine wpAny_bind (wpAny_setState_of ho hd R.fits ?_)
        dsimp only
        by_cases hkk : p.2 = k
        · exact wp_if_pos (by simp [hkk]) (wpAny_pure (hin (List.mem_map.mpr ⟨p, hmem, hkk⟩)))
        · refine wp_if_neg (by simp [hkk]) ?_
          try refine wpAny_bind (wpAny_pure ?_)
          rw [sameMem]
          dsimp only
          have hsl : t.slot (way t.mask g (c + q)) = .live i := slot_live R.tab.ris hi
          simp only [if_true, hsl, R.entry hp]
          refine wpAny_bind (wpAny_isSame_ref_self (wpAny_bind (wpAny_pure ?_)))
          simp only [if_true]
          refine wp_if_neg (by simp [hkk]) ?_
          subst hg
          have hm : way t.mask (k.hash w) (c + q) ∈ slotsN w L t (k.hash w) := mem_slotsN.mpr ⟨i, hi, by rw [List.getElem?_map, hp]; exact congrArg some hpg⟩
          have one : mets t.mask (k.hash w) (slotsN w L t (k.hash w)) (c + q) 1 = 1 := by
            unfold mets
            rw [show List.range' (c + q) 1 = [c + q] from rfl, List.filter_cons, if_pos (decide_eq_true hm)]
            rfl
          have sp : K - c = q + (1 + (K - (c + (q + 1)))) := by omega
          rw [sp, mets_split, mets_split, one, show c + q + 1 = c + (q + 1) by omega] at hf
          refine SetG.from R hx hu hKf hK hKb hin hout f (c + (q + 1)) _ rfl (by omega) (by omega) fun i0 p0 h0 hk0 => ?_
          obtain ⟨c2, a1, a2, a3⟩ := hre i0 p0 h0 hk0
          refine ⟨c2, Classical.not_not.mp fun z => ?_, a2, a3⟩
          by_cases y : c2 = c + q
          · rw [y] at a3
            have s0 := slot_live R.tab.ris a3
            rw [hsl] at s0
            cases s0
            rw [hp] at h0
            cases h0
            exact hkk hk0
          · exact hno (c2 - c) i0 (by omega) (by rw [shj, Nat.add_sub_cancel' a1]; exact a3) ((hashAt i0 p0 h0).trans (congrArg (NestedKey.hash w) hk0))
      by_cases hl : t.led = true
      · refine wp_if_neg (by simp [hl]) ?_
        try refine wpAny_bind (wpAny_pure ?_)
        exact rest
      · refine wp_if_pos (by simp [hl]) ?_
        refine wpAny_bind (seen_key hx (fun y hy => ?_) ?_)
        · obtain ⟨e, he, ee⟩ := List.mem_map.mp hy
          have he1 : e ∈ es ∧ e.1 = g := by simpa using he
          have he2 : e ∈ es.toList := by simpa using he1.1
          rw [R.rows] at he2
          obtain ⟨p2, hp2, e2⟩ := List.mem_map.mp he2
          exact ⟨p2.2, p2.1, by rw [← ee, ← e2], R.tup p2 hp2⟩
        · refine wp_if_neg (by decide) ?_
          try refine wpAny_bind (wpAny_pure ?_)
          exact rest
    · have hpr2 : t.probe (fun i => (es[i]?.map (·.1)).getD 0) g (stand.getD (t.probeStart g)) = some (.empty (way t.mask g K) none) := by
        rw [hst, show way t.mask g K = (nth t.mask (stp t.mask g c) (K - c)).j by rw [shj, Nat.add_sub_cancel' hc]]
        exact hpr
      rw [hpr2]
      dsimp only
      refine wpAny_pure (hout fun hm => ?_)
      obtain ⟨p0, h0, hk0⟩ := List.mem_map.mp hm
      obtain ⟨i0, h00⟩ := List.mem_iff_getElem?.mp h0
      obtain ⟨c2, a1, a2, a3⟩ := hre i0 p0 h00 hk0
      exact hno (c2 - c) i0 (by omega) (by rw [shj, Nat.add_sub_cancel' a1]; exact a3) ((hashAt i0 p0 h00).trans (by rw [hk0]; exact hg))
/-- the search -/
theorem SetG.search (R : SetG P w s.heap a L es ep t) {x : Addr} {k : NestedKey} (hx : IsN P w s.heap k x) (hu : A.units + 8 < cLine) {Q : SetFound → Shared → Prop}
    (hin : k ∈ L.map (·.2) → Q (.there none) s)
    (hout : ∀ K, k ∉ L.map (·.2) → way t.mask (k.hash w) K ∉ t.place.toList → (∀ c, c < K → way t.mask (k.hash w) c ∈ t.place.toList) → Q (.free (way t.mask (k.hash w) K) false) s) :
    wpAny (model P w) A (setSearch a (.ref x) (k.hash w) true) Q E s := by
  have room := R.room
  obtain ⟨K, n, hn, hKo, hKf, hK, hKb⟩ := R.tab.near (by rw [List.length_map]; omega) (k.hash w)
  obtain ⟨s1, s2, s3⟩ := R.slots (k.hash w)
  have fm := few_mets R.tab.mok (k.hash w) s1 s2 hn hKo
  unfold setSearch
  refine SetG.from R hx hu hKf hK hKb hin (fun hn => hout K hn hK hKb) 100000 0 none rfl (Nat.zero_le _) (by rw [Nat.sub_zero]; omega) fun i p hp hk => ?_
  have hi : (hshN w L)[i]? = some (k.hash w) := by rw [List.getElem?_map, hp, ← hk]; rfl
  have hil : i < t.place.toList.length := by
    rw [R.tab.len]
    exact (List.getElem?_eq_some_iff.mp hi).1
  obtain ⟨c, hc, e⟩ := R.tab.before hK hi (List.getElem?_eq_getElem hil)
  exact ⟨c, Nat.zero_le _, hc, by rw [List.getElem?_eq_getElem hil, e]⟩
end
end My

set_option Elab.async false
set_option maxRecDepth 100000
set_option maxHeartbeats 4000000
set_option linter.all false
/-! Sets of nested tuples: one is put in, all are laid anew, set(a list), len. -/
namespace My
open PySem PySem.Spec PyProof.Rows L2
theorem FewN.sub {w : World} {ks js : List NestedKey} (f : FewN w ks) (h : ∀ k ∈ js, k ∈ ks) : FewN w js := fun l g nd hl => f l g nd fun k hk => ⟨h k (hl k hk).1, (hl k hk).2⟩
theorem TabG.pl {t : SetTable} {hs : List Int} {b : Bool} (T : TabG t hs) : TabG { t with plain := b } hs := ⟨T.ris, T.dm, T.sz, T.mok, T.bd, T.reach⟩
section
variable {P : Program} {w : World} {A : Around} {E : Value → Shared → Prop} {s : Shared} {a : Addr} {L : List NK} {es : Array (Int × Value)} {ep : Nat} {t : SetTable} {h : Heap}
theorem IsN.apart {h' : Heap} {k : NestedKey} {b : Addr} {o : Obj} (x : IsN P w h k b) (ho : h.get? a = some o) (hd : o.data = .set es ep t) (sb : Heap.SameBut a h h') : IsN P w h' k b := by
  refine ⟨x.1.at fun c z vs n hc hz => ?_, x.2⟩
  refine (sb.2 c ?_).trans hc
  intro e
  rw [e, ho] at hc
  cases hc
  rw [hd] at hz
  cases hz
theorem IsN.kept {h' : Heap} {k : NestedKey} {b : Addr} (x : IsN P w h k b) (q : ∀ c o, h.get? c = some o → h'.get? c = some o) : IsN P w h' k b := ⟨x.1.at fun c o _ _ hc _ => q c o hc, x.2⟩
theorem take_all {α : Type} (l : List α) : (List.range l.length).filterMap (fun i => l[i]?) = l := by
  have : ∀ n, n ≤ l.length → (List.range n).filterMap (fun i => l[i]?) = l.take n := by
    intro n
    induction n with
    | zero => exact fun _ => rfl
    | succ n ih =>
      intro hn
      rw [List.range_succ, List.filterMap_append, ih (by omega), List.take_add_one]
      have e : l[n]? = some l[n] := List.getElem?_eq_getElem (by omega)
      rw [List.filterMap_cons_some e, e]
      rfl
  rw [this _ (Nat.le_refl _), List.take_length]
/-- the rows in another order -/
theorem orderN (order : Array Nat) (hr : es.toList = rowN w L) (hp : order.toList.Perm (List.range L.length)) :
    ∃ J, (order.filterMap (es[·]?)).toList = rowN w J ∧ J.Perm L ∧ hshN w J = order.toList.map fun i => (es.map (·.1)).getD i 0 := by
  have at_ : ∀ i : Nat, es[i]? = (L[i]?).map fun p : NK => (p.2.hash w, Value.ref p.1) := fun i => by
    rw [← Array.getElem?_toList, hr]
    unfold rowN
    rw [List.getElem?_map]
  refine ⟨order.toList.filterMap fun i => L[i]?, ?_, ?_, ?_⟩
  · rw [Array.toList_filterMap]
    unfold rowN
    rw [List.map_filterMap]
    exact congrArg (fun f => order.toList.filterMap f) (funext at_)
  · have := hp.filterMap fun i => L[i]?
    rwa [take_all] at this
  · have : ∀ l : List Nat, (∀ i ∈ l, i < L.length) → hshN w (l.filterMap fun i => L[i]?) = l.map fun i => (es.map (·.1)).getD i 0 := by
      intro l
      unfold hshN
      induction l with
      | nil => exact fun _ => rfl
      | cons i l ih =>
        intro hl
        have e : L[i]? = some (L[i]'(hl i (.head _))) := List.getElem?_eq_getElem _
        rw [List.filterMap_cons_some e, List.map_cons, List.map_cons, ih fun j hj => hl j (.tail _ hj), Array.getD_eq_getD_getElem?, Array.getElem?_map, at_ i, e]
        rfl
    exact this _ fun i hi => List.mem_range.mp (hp.mem_iff.mp hi)
theorem grown_le {n : Nat} (h : n ≤ 99000) : 2 * n ≤ SetTable.grown n ∧ SetTable.grown n ≤ 200000 := by
  unfold SetTable.grown
  split <;> omega
/-- all laid anew -/
theorem relayN {o : Obj} (ho : s.heap.get? a = some o) (hex : o.ExactSet) (hd : o.data = .set es ep t) (hr : es.toList = rowN w L) (T : TabG t (hshN w L)) (fl : L.length ≤ t.mask) (nd : (L.map (·.2)).Nodup) (tup : ∀ p ∈ L, IsN P w s.heap p.2 p.1)
    (l1 : 1 ≤ L.length) (few : L.length ≤ 99000) (col : FewN w (L.map (·.2))) {Q : Unit → Shared → Prop}
    (hQ : ∀ h' J es' ep' t', Heap.SameBut a s.heap h' → SetG P w h' a J es' ep' t' → J.Perm L → Q () { s with heap := h' }) : wpAny (model P w) A (setRelay a (SetTable.grown L.length)) Q E s := by
  have hsz : es.size = L.length := by rw [← Array.length_toList, hr, rowN_len]
  have hfits : t.fits es.size = true := by
    have := T.sz
    rw [List.length_map] at this
    unfold SetTable.fits SetTable.fill
    rw [T.dm, Bool.and_eq_true, beq_iff_eq, decide_eq_true_eq]
    exact ⟨by omega, by show t.place.size + 0 ≤ t.mask; omega⟩
  obtain ⟨g1, g2⟩ := grown_le few
  obtain ⟨m1, m2, m3⟩ := above_is (n := SetTable.grown L.length) (by omega)
  obtain ⟨t', order, e, N⟩ := new_all t (hs := es.map (·.1)) (wanted := SetTable.grown L.length) rfl m1 (by rw [Array.size_map]; omega)
  have hp := N.perm
  rw [Array.size_map, hsz] at hp
  obtain ⟨J, r1, r2, r3⟩ := orderN order hr hp
  have T2 := N.tab
  rw [← r3] at T2
  have hs2 : (order.filterMap (es[·]?)).size = es.size := by rw [← Array.length_toList, r1, rowN_len, r2.length_eq, hsz]
  rw [setRelay_eq]
  refine wpAny_bind (wpAny_setState_of ho hd hfits ?_)
  dsimp only
  refine wp_if_neg (by rw [sizeLine_eq]; omega) ?_
  try refine wpAny_bind (wpAny_pure ?_)
  rw [e]
  dsimp only
  refine wpAny_bind ?_
  refine wp_if_neg (by rw [hs2]; simp) ?_
  try refine wpAny_bind (wpAny_pure ?_)
  refine wpAny_pure ?_
  dsimp only
  refine wpAny_storeSet_of ho hd ?_ (by rw [hs2, hsz, sizeLine_eq]; omega)
  have sb : Heap.SameBut a s.heap (s.heap.update a (Obj.putSet (order.filterMap (es[·]?)) t')) := Heap.SameBut.update ..
  refine hQ _ J _ (ep + 1) t' sb ⟨⟨_, store_at ho hd, ⟨hex.1, hex.2.1, hex.2.2⟩, rfl⟩, r1, T2, (r2.map (·.2)).nodup_iff.mpr nd, fun p hpm => (tup p (r2.mem_iff.mp hpm)).apart ho hd sb, ?_, ?_, col.sub fun k hk => (r2.map (·.2)).mem_iff.mp hk⟩ r2
  · rw [r2.length_eq, N.mask]
    omega
  · rw [r2.length_eq]
    exact few
/-- one more -/
theorem SetG.add (R : SetG P w s.heap a L es ep t) {x : Addr} {k : NestedKey} (hx : IsN P w s.heap k x) (hu : A.units + 8 < cLine) (few : L.length + 1 ≤ 99000) (col : FewN w (k :: L.map (·.2))) {Q : Bool → Shared → Prop}
    (hQ : ∀ b h' J es' ep' t', Heap.SameBut a s.heap h' → SetG P w h' a J es' ep' t' → (k ∈ L.map (·.2) → J = L) → (k ∉ L.map (·.2) → J.Perm ((x, k) :: L)) → Q b { s with heap := h' }) :
    wpAny (model P w) A (setAddHashed a (.ref x) (k.hash w)) Q E s := by
  obtain ⟨o, ho, hex, hd⟩ := R.ob
  have hsz := R.size
  have room := R.room
  have m7 : 7 ≤ t.mask := by
    obtain ⟨c, h3, e⟩ := R.tab.mok
    have := Nat.pow_le_pow_right (show 0 < 2 by decide) h3
    omega
  unfold setAddHashed
  refine wpAny_holding ?_
  rw [show (100000 : Nat) = 99999 + 1 from rfl, setAddHashedIn_succ]
  refine wpAny_bind (wpAny_setState_of ho hd R.fits ?_)
  dsimp only
  refine wp_if_neg (by simp [byScan, Value.scannable]) ?_
  try refine wpAny_bind (wpAny_pure ?_)
  refine wpAny_bind (R.search hx hu (fun hm => ?_) fun K hm hK hb => ?_)
  · dsimp only
    exact wpAny_pure (hQ false s.heap L es ep t (Heap.SameBut.refl a s.heap) R (fun _ => rfl) fun z => absurd hm z)
  dsimp only
  refine wpAny_bind (wpAny_setState_of ho hd R.fits ?_)
  dsimp only
  have PG := R.tab.put hK hb
  generalize hpt : t.put (way t.mask (k.hash w) K) = pt at PG ⊢
  obtain ⟨t1, p⟩ := pt
  dsimp only at PG ⊢
  have hin : (SetTable.insertAt es p (k.hash w, Value.ref x)).toList = rowN w (L.take p ++ (x, k) :: L.drop p) := by
    rw [SetTable.toList_insertAt, R.rows]
    unfold rowN
    rw [List.map_append, List.map_cons, List.map_take, List.map_drop]
  have pm : (L.take p ++ (x, k) :: L.drop p).Perm ((x, k) :: L) := by
    have := List.perm_middle (l₁ := L.take p) (l₂ := L.drop p) (a := (x, k))
    rwa [List.take_append_drop] at this
  have T1 : TabG t1 (hshN w (L.take p ++ (x, k) :: L.drop p)) := by
    unfold hshN
    rw [List.map_append, List.map_cons, List.map_take, List.map_drop]
    exact PG.tab
  have fill := PG.fill
  have mask := PG.mask
  rw [List.length_map] at fill
  clear PG hpt
  generalize SetTable.insertAt es p (k.hash w, Value.ref x) = es1 at hin ⊢
  generalize L.take p ++ (x, k) :: L.drop p = L1 at pm T1 hin
  have len : L1.length = L.length + 1 := pm.length_eq
  have hes : es1.size = L.length + 1 := by rw [← Array.length_toList, hin, rowN_len, len]
  have nd1 : (L1.map (·.2)).Nodup := (pm.map (·.2)).nodup_iff.mpr (List.nodup_cons.mpr ⟨hm, R.nd⟩)
  have col1 : FewN w (L1.map (·.2)) := col.sub fun j hj => (pm.map (·.2)).mem_iff.mp hj
  -- what is left, with or without the mark
  have fin : ∀ t2 : SetTable, TabG t2 (hshN w L1) → t2.fill = L.length + 1 → t2.mask = t.mask → wpAny (model P w) A (do
      storeSet a es1 t2
      if t2.tooFull then setRelay a (SetTable.grown (es.size + 1))
      pure true) Q E s := fun t2 T2 fill2 mask2 => by
    refine wpAny_bind (wpAny_storeSet_of ho hd ?_ (by rw [hes, sizeLine_eq]; omega))
    have sb : Heap.SameBut a s.heap (s.heap.update a (Obj.putSet es1 t2)) := Heap.SameBut.update ..
    have ho1 := store_at (es' := es1) (t' := t2) ho hd
    generalize s.heap.update a (Obj.putSet es1 t2) = h1 at sb ho1 ⊢
    have tup1 : ∀ p ∈ L1, IsN P w h1 p.2 p.1 := fun q hq => by
      rcases List.mem_cons.mp (pm.mem_iff.mp hq) with rfl | hq
      · exact hx.apart ho hd sb
      · exact (R.tup q hq).apart ho hd sb
    have full : t2.tooFull = decide ((L.length + 1) * 5 ≥ t.mask * 3) := by
      unfold SetTable.tooFull
      rw [fill2, mask2]
    rw [full]
    by_cases hf : (L.length + 1) * 5 ≥ t.mask * 3
    · first
        | (refine wpAny_bind ?_; refine wp_if_pos (by simp [hf]) ?_)
        | (refine wp_if_pos (by simp [hf]) ?_; refine wpAny_bind ?_)
      rw [hsz, ← len]
      refine relayN (s := { s with heap := h1 }) ho1 ⟨hex.1, hex.2.1, hex.2.2⟩ rfl hin T2 (by omega) nd1 tup1 (by omega) (by omega) col1 fun h2 J es2 ep2 t3 sb2 R2 pm2 => ?_
      exact wpAny_pure (hQ true h2 J es2 ep2 t3 (sb.trans sb2) R2 (fun z => absurd z hm) fun _ => pm2.trans pm)
    · first
        | refine wp_if_neg (by simp [hf]) ?_
        | (refine wpAny_bind ?_; refine wp_if_neg (by simp [hf]) ?_; refine wpAny_pure ?_)
      refine wpAny_pure (hQ true h1 L1 es1 (ep + 1) t2 sb ⟨⟨_, ho1, ⟨hex.1, hex.2.1, hex.2.2⟩, rfl⟩, hin, T2, nd1, tup1, by rw [len, mask2]; omega, by omega, col1⟩ (fun z => absurd z hm) fun _ => pm)
  have two : ∀ b : Bool, wpAny (model P w) A (do
      storeSet a es1 (if b = true then t1 else { t1 with plain := false })
      if (if b = true then t1 else { t1 with plain := false }).tooFull then setRelay a (SetTable.grown (es.size + 1))
      pure true) Q E s := fun b => by
    cases b
    · exact fin _ T1.pl fill mask
    · exact fin _ T1 fill mask
  by_cases hp : t1.plain = true
  · first
      | (refine wpAny_bind ?_; refine wp_if_pos hp ?_; refine hashV_key 8 hx.1 fun b => ?_)
      | refine wp_if_pos hp (wpAny_bind (hashV_key 8 hx.1 fun b => ?_))
    exact two b
  · first
      | (refine wpAny_bind ?_; refine wp_if_neg hp ?_; refine wpAny_pure ?_)
      | refine wp_if_neg hp (wpAny_bind (wpAny_pure ?_))
    exact two true
end
end My

set_option Elab.async false
set_option maxRecDepth 100000
set_option maxHeartbeats 4000000
set_option linter.all false
/-! set(a list of nested tuples), and how many it holds. -/
namespace My
open PySem PySem.Spec PyProof.Rows L2
/-- what a set has of the first i -/
structure GotN (ks : List NK) (i : Nat) (L : List NK) : Prop where
  sub : ∀ p ∈ L, p ∈ ks.take i
  all : ∀ p ∈ ks.take i, p.2 ∈ L.map (·.2)
  len : L.length ≤ i
theorem GotN.old {ks L : List NK} {i : Nat} {x : NK} (g : GotN ks i L) (e : ks[i]? = some x) (hm : x.2 ∈ L.map (·.2)) : GotN ks (i + 1) L := by
  have tk : ks.take (i + 1) = ks.take i ++ [x] := by
    rw [List.take_add_one, e]
    rfl
  refine ⟨fun p hp => by rw [tk]; exact List.mem_append_left _ (g.sub p hp), fun p hp => ?_, by have := g.len; omega⟩
  rw [tk, List.mem_append, List.mem_singleton] at hp
  rcases hp with hp | rfl
  · exact g.all p hp
  · exact hm
theorem GotN.new {ks L J : List NK} {i : Nat} {x : NK} (g : GotN ks i L) (e : ks[i]? = some x) (pm : J.Perm (x :: L)) : GotN ks (i + 1) J := by
  have tk : ks.take (i + 1) = ks.take i ++ [x] := by
    rw [List.take_add_one, e]
    rfl
  refine ⟨fun p hp => ?_, fun p hp => (pm.map (·.2)).mem_iff.mpr ?_, by rw [pm.length_eq]; exact Nat.succ_le_succ g.len⟩
  · rw [tk, List.mem_append, List.mem_singleton]
    rcases List.mem_cons.mp (pm.mem_iff.mp hp) with rfl | hp
    · exact .inr rfl
    · exact .inl (g.sub p hp)
  · rw [tk, List.mem_append, List.mem_singleton] at hp
    rcases hp with hp | rfl
    · exact .tail _ (g.all p hp)
    · exact .head _
section
variable {P : Program} {w : World} {A : Around} {E : Value → Shared → Prop} {s : Shared}
theorem SetG.kept {h h' : Heap} {a : Addr} {L : List NK} {es : Array (Int × Value)} {ep : Nat} {t : SetTable} (R : SetG P w h a L es ep t) (ha : ∀ o, h.get? a = some o → h'.get? a = some o) (ht : ∀ p ∈ L, IsN P w h' p.2 p.1) : SetG P w h' a L es ep t :=
  ⟨let ⟨o, ho, r⟩ := R.ob; ⟨o, ha o ho, r⟩, R.rows, R.tab, R.nd, ht, R.room, R.few, R.col⟩
theorem setG_none {h : Heap} {a : Addr} {b : Bool} (ho : h.get? a = some { cls := .type "set", dict := none, data := .set #[] 0 (.fresh 0 0 b) }) : SetG P w h a [] #[] 0 (.fresh 0 0 b) where
  ob := ⟨_, ho, ⟨rfl, rfl, rfl⟩, rfl⟩
  rows := rfl
  tab := ⟨List.Pairwise.nil, rfl, rfl, ⟨3, Nat.le_refl _, rfl⟩, (fun x hx => nomatch hx), fun i h j e => by cases e⟩
  nd := List.nodup_nil
  tup := fun p hp => nomatch hp
  room := by
    show 0 < 7 * 3
    omega
  few := Nat.zero_le _
  col := fun l g nd hl => by
    cases l with
    | nil => exact Nat.zero_le _
    | cons k l => exact nomatch (hl k (.head _)).1
/-- what set.update's loop wants at its end -/
def DoneN (P : Program) (w : World) (S : Addr) (wr : List Addr) (G : Array GenState → Array GenState → Prop) (ks : List NK) (h0 : Heap) (s s' : Shared) : Prop :=
  ∃ L es ep t, Moved (S :: wr) G s s' ∧ SetG P w s'.heap S L es ep t ∧ GotN ks ks.length L ∧ ∀ b o, h0.get? b = some o → s'.heap.get? b = some o
theorem updN {I : Addr} {fp wr : List Addr} {G : Array GenState → Array GenState → Prop} {n : Nat} {Pv : Nat → Value → Prop} {St : Nat → Shared → Prop} {R : Result → Shared → Prop}
    (W : WalksS P w A.in1 I fp wr G n Pv St) (S : Addr) (hSf : S ∉ fp) (ks : List NK) (hn : n = ks.length) (few : ks.length ≤ 99000) (col : FewN w (ks.map (·.2))) (hval : ∀ i v, Pv i v → ∃ p, ks[i]? = some p ∧ v = .ref p.1)
    (h0 : Heap) (hk : ∀ p ∈ ks, IsN P w h0 p.2 p.1) (hS0 : h0.get? S = none) (hw0 : ∀ b ∈ wr, h0.get? b = none) (hu : A.in1.units + 8 < cLine) :
    ∀ (d i : Nat) (s : Shared), n - i = d → i ≤ n → St i s → (∀ b o, h0.get? b = some o → s.heap.get? b = some o) → (∃ L es ep t, SetG P w s.heap S L es ep t ∧ GotN ks i L) →
      (∀ s', DoneN P w S wr G ks h0 s s' → R (.ok (.ret .none)) s') →
      codeAny (model P w) A (.builtin "set.update.loop" ⟨[.ref S, .ref I], []⟩) R s := by
  have far : S ∉ wr := fun z => hSf (W.sub _ z)
  have wide : ∀ b ∈ wr, b ∈ S :: wr := fun b hb => .tail _ hb
  have keepM : ∀ {s s' : Shared}, Moved wr G s s' → (∀ b o, h0.get? b = some o → s.heap.get? b = some o) → ∀ b o, h0.get? b = some o → s'.heap.get? b = some o := fun hm q b o e =>
    hm.heap b o (fun z => by rw [hw0 b z] at e; cases e) (q b o e)
  intro d
  induction d with
  | zero =>
    intro i s hd hi hst q ⟨L, es, ep, t, hS, g⟩ hR
    obtain rfl : i = n := by omega
    refine codeAny_builtin F.entry_set_update_loop ?_
    rw [Around.under_plainId F.plain_set_update_loop _]
    show wpAny _ A.in1 (pyNext (.ref I) >>= _) _ _ s
    refine wpAny_bind (W.done s _ _ hst fun s' hm => ?_)
    show wpAny _ A.in1 (ret Value.none) _ _ s'
    have q' := keepM hm q
    rw [hn] at g
    exact wpAny_pure (hR s' ⟨L, es, ep, t, hm.mono wide, hS.kept (fun o e => hm.heap S o far e) (fun p hp => (hk p (List.mem_of_mem_take (g.sub p hp))).kept q'), g, q'⟩)
  | succ d ih =>
    intro i s hd hi hst q ⟨L, es, ep, t, hS, g⟩ hR
    have hlt : i < n := by omega
    refine codeAny_builtin F.entry_set_update_loop ?_
    rw [Around.under_plainId F.plain_set_update_loop _]
    show wpAny _ A.in1 (pyNext (.ref I) >>= _) _ _ s
    refine wpAny_bind (W.item i s _ _ hlt hst fun v s' hP hst' hm => ?_)
    obtain ⟨p, hp, rfl⟩ := hval i v hP
    have q' := keepM hm q
    have inK : ∀ x ∈ L, x ∈ ks := fun x hx => List.mem_of_mem_take (g.sub x hx)
    have hS' : SetG P w s'.heap S L es ep t := hS.kept (fun o e => hm.heap S o far e) fun x hx => (hk x (inK x hx)).kept q'
    have hx : IsN P w s'.heap p.2 p.1 := (hk p (List.mem_of_getElem? hp)).kept q'
    show wpAny _ A.in1 (holding [Value.ref p.1] (setAdd S (.ref p.1)) >>= _) _ _ s'
    refine wpAny_bind (wpAny_holding ?_)
    unfold setAdd
    refine wpAny_holding ?_
    refine wpAny_bind ((nestedKind P w).pyHash hu hx ?_)
    refine SetG.add (s := { s' with toks := s'.toks + p.2.draws }) hS' hx hu (by have := g.len; omega) (col.sub fun k hk => ?_) fun b h' J es' ep' t' sb hS2 c1 c2 => ?_
    · rcases List.mem_cons.mp hk with rfl | hk
      · exact List.mem_map.mpr ⟨p, List.mem_of_getElem? hp, rfl⟩
      · obtain ⟨x, hx, rfl⟩ := List.mem_map.mp hk
        exact List.mem_map.mpr ⟨x, inK x hx, rfl⟩
    have g' : GotN ks (i + 1) J := by
      rcases Classical.em (p.2 ∈ L.map (·.2)) with c | c
      · rw [c1 c]
        exact g.old hp c
      · exact g.new hp (c2 c)
    have q2 : ∀ b o, h0.get? b = some o → h'.get? b = some o := fun b o e => (sb.2 b (fun z => by rw [z, hS0] at e; cases e)).trans (q' b o e)
    refine wpAny_pure ⟨plainId_quiet F.plain_set_update_loop _, ih (i + 1) _ (by omega) hlt (W.frame _ s' _ _ hst' (Nat.le_add_right _ _) fun b hb o e => ?_) q2 ⟨J, es', ep', t', hS2, g'⟩ fun s'' hD => ?_⟩
    · rw [sb.2 b (fun z : b = S => hSf (z ▸ hb))]
      exact e
    · obtain ⟨J2, es2, ep2, t2, hm2, r⟩ := hD
      refine hR s'' ⟨J2, es2, ep2, t2, Moved.trans W.gtrans ((hm.mono wide).then_heap (Nat.le_add_right _ _) fun b o hb e => ?_) hm2, r⟩
      rw [sb.2 b (fun z : b = S => hb (by rw [z]; exact .head _))]
      exact e
abbrev setO (b : Bool) : Obj := { cls := .type "set", dict := none, data := .set #[] 0 (.fresh 0 0 b) }
/-- set(l) -/
theorem callSetN {l : Addr} {items : Array Value} (ks : List NK) {Q : Value → Shared → Prop} (hh : A.handled = none) (hl : s.heap.IsList l items) (hit : items.toList = ks.map fun p => Value.ref p.1)
    (hk : ∀ p ∈ ks, IsN P w s.heap p.2 p.1) (few : ks.length ≤ 99000) (col : FewN w (ks.map (·.2))) (hu : A.units + 16 < cLine)
    (fin : ∀ (h' : Heap) (tk : Nat) L es ep t, SetG P w h' s.heap.objs.size L es ep t → GotN ks ks.length L → (∀ b o, s.heap.get? b = some o → h'.get? b = some o) → Q (.ref s.heap.objs.size) { s with heap := h', toks := tk }) :
    wpAny (model P w) A (call (.type "set") [.ref l]) Q E s := by
  have size : items.size = ks.length := by rw [← Array.length_toList, hit, List.length_map]
  obtain ⟨c, tl, hmro⟩ := F.called_set.mro
  have hmade := F.called_set.made
  have hsub := F.called_set.sub
  refine wpAny_call (codeAny_of_tree ?_)
  show wpAny _ _ (callAny (.type "set") _) _ _ _
  refine wpAny_pure ⟨Code.quiet_builtin _ (by decide +kernel), codeAny_builtin F.entry_type_call ?_⟩
  rw [Around.under_plain (weight_type_call_type "set" [.ref l] []) rfl]
  have h1 := F.called_set.notType
  have h2 := F.called_set.canCreate
  have hct := F.typeCall_set_1 (.ref l)
  repeat (any_goals (first | assumption | wp_step))
  generalize hb : (!w.params.followText "set-order") = led
  refine codeAny_mono (code_set_led1 (.ref l) (E := E) (Q₁ := fun obj s₁ => obj = .ref s.heap.objs.size ∧ s₁ = { s with heap := s.heap.push (setO led) }) ⟨rfl, by rw [hb]⟩) fun r s₁ hr => ?_
  cases r with
  | error e => exact hr
  | ok fl =>
    cases fl with
    | ret obj =>
      obtain ⟨rfl, rfl⟩ := hr
      have hS : (s.heap.push (setO led)).get? s.heap.objs.size = some (setO led) := Heap.get?_push_size _ rfl
      have hT : Shared.TypeIs { s with heap := s.heap.push (setO led) } (.ref s.heap.objs.size) "set" := ⟨_, hS, rfl⟩
      have hli := F.called_set.init.lookup
      have hbi := F.called_set.init.bind (.ref s.heap.objs.size)
      repeat (any_goals (first | assumption | wp_step))
      refine codeAny_mono (codeAny_call_builtin (R := wants (fun r s₂ => r = .none ∧ ∃ h' tk L es ep t, s₂ = { s with heap := h', toks := tk } ∧ SetG P w h' s.heap.objs.size L es ep t ∧ GotN ks ks.length L ∧
          (∀ b o, s.heap.get? b = some o → h'.get? b = some o)) E) F.called_set.init.plain F.entry_set_init (check_set_init_1 hT ?_)) fun r₂ s₂ hr₂ => ?_
      · obtain ⟨⟨ocls, odict, odata, oslots⟩, hol, hcl, nl, hdl⟩ := hl
        simp only at hcl hdl
        subst hcl hdl
        have hol' : (s.heap.push (setO led)).get? l = some { cls := .type "list", dict := odict, data := .seq items nl, slots := oslots } := Heap.get?_push_of_some _ hol
        have hsls := F.sub_list_set
        have hslf := F.sub_list_frozenset
        have hne : (Value.type "list" == Value.type "dict") = false := by decide
        have hl1 : (s.heap.push (setO led)).IsList l items := ⟨_, hol', rfl, nl, rfl⟩
        unfold Builtin.«set.__init__» noKeywords Builtin.Frozenset.updateFrom
        generalize hPI : pyIter = PI
        wp_walk
        subst hPI
        refine wpAny_pyIter_list hl1 ?_
        refine wpAny_bind (wpAny_runValue ?_)
        have low : l < s.heap.objs.size := Heap.lt_size hol
        have z1 : (s.heap.push (setO led)).objs.size = s.heap.objs.size + 1 := Heap.size_push ..
        have apart : l ≠ (s.heap.push (setO led)).objs.size := by rw [z1]; exact Nat.ne_of_lt (Nat.lt_succ_of_lt low)
        have out : s.heap.objs.size ∉ [(s.heap.push (setO led)).objs.size, l] := by
          intro z
          rcases List.mem_cons.mp z with z | z
          · rw [z1] at z
            exact absurd z (Nat.ne_of_lt (Nat.lt_succ_self _))
          · exact absurd (List.mem_singleton.mp z) (Nat.ne_of_gt low)
        have hval : ∀ (i : Nat) (v : Value), items[i]? = some v → ∃ p, ks[i]? = some p ∧ v = .ref p.1 := fun i v hv => by
          rw [← Array.getElem?_toList, hit, List.getElem?_map] at hv
          obtain ⟨p, hp, rfl⟩ := Option.map_eq_some_iff.mp hv
          exact ⟨p, hp, rfl⟩
        have high : ∀ b, s.heap.objs.size ≤ b → s.heap.get? b = none := fun b le => by
          cases q : s.heap.get? b with
          | none => rfl
          | some o => exact absurd (Heap.lt_size q) (Nat.not_lt_of_le le)
        have got0 : ((s.heap.push (setO led)).push { cls := .type "list_iterator", data := .fields #[.ref l, .int 0 0] }).get? s.heap.objs.size = some (setO led) := Heap.get?_push_of_some _ hS
        refine updN ((Walks.list (by simp [hh]) _ l apart items).toS) s.heap.objs.size out ks size few col hval s.heap hk (high _ (Nat.le_refl _)) (fun b hb => high b (by rw [List.mem_singleton.mp hb, z1]; exact Nat.le_succ _)) ?hu (items.size - 0) 0 _ (by omega) (Nat.zero_le _)
          ⟨⟨_, Heap.get?_push_size _ rfl, rfl, rfl⟩, (hl1.push _)⟩ (fun b o e => Heap.get?_push_of_some _ (Heap.get?_push_of_some _ e)) ⟨[], #[], 0, _, setG_none got0, ⟨(fun p h => nomatch h), (fun p h => nomatch h), Nat.le_refl _⟩⟩ ?hR
        case hu =>
          show A.units + 3 + 8 < cLine
          omega
        case hR =>
          rintro ⟨h', g2, d', tk', os'⟩ ⟨L, es, ep, t, hm, hS', g', q⟩
          obtain rfl : g2 = s.gens := hm.gens
          obtain rfl : d' = s.drawn := hm.drawn
          obtain rfl : os' = s.os := hm.os
          show wpAny _ _ _ _ _ _
          refine wpAny_pure ?_
          show wpAny _ _ (ret Value.none) _ _ _
          exact wpAny_pure ⟨rfl, h', tk', L, es, ep, t, rfl, hS', g', q⟩
      · cases r₂ with
        | error e => exact hr₂
        | ok fl₂ =>
          cases fl₂ with
          | ret r =>
            obtain ⟨rfl, h', tk, L, es, ep, t, rfl, hS', g', hk'⟩ := hr₂
            repeat (any_goals (first | assumption | wp_step))
            exact fin _ _ _ _ _ _ hS' g' hk'
          | _ => exact hr₂.elim
    | _ => exact hr.elim
end
end My

set_option Elab.async false
set_option maxRecDepth 100000
set_option maxHeartbeats 4000000
set_option linter.all false
/-! The rules: set(a list of nested tuples); len of it. -/
namespace My
open PySem PySem.Spec PyProof.Rows L2
/-- a set of so many -/
def SetL (a : Addr) (n : Nat) : HO := .ext fun h => ∃ (es : Array (Int × Value)) (ep : Nat) (t : SetTable), (∃ o, h.get? a = some o ∧ o.ExactSet ∧ o.data = .set es ep t) ∧ t.fits es.size = true ∧ es.size = n
theorem setL_new {P : Program} {w : World} {H : Hp} {h : Heap} {a : Addr} {n : Nat} {L : List NK} {es : Array (Int × Value)} {ep : Nat} {t : SetTable} (R : SetG P w h a L es ep t) (hn : L.length = n) : ObjOk P w H h a (SetL a n) := by
  have ⟨o, ho, r⟩ := R.ob
  refine ⟨⟨es, ep, t, R.ob, R.fits, R.size.trans hn⟩, ⟨o, ho⟩, fun h1 h2 p k => ?_⟩
  obtain ⟨es', ep', t', ⟨o', ho', r'⟩, q⟩ := p
  exact ⟨es', ep', t', ⟨o', k o' ho', r'⟩, q⟩
def rSetN (K : PySem.W.Frag) (w : World) : List V → Hp → VK → Prop := fun xs H Q => ∃ (l : Addr) (ks : List NK), xs = [.ref l] ∧ SqL K H l (ks.map fun p => V.ref p.1) ∧ (∀ p ∈ ks, KtV H (.ref p.1) p.2 ∧ p.2.depth ≤ 8) ∧ ks.length ≤ 99000 ∧ FewN w (ks.map (·.2)) ∧
  ∀ (a : Addr) (js : List NestedKey), H a = none → js.Nodup → (∀ k, k ∈ js ↔ k ∈ ks.map (·.2)) → Q (.ref a) (upd H a (SetL a js.length))
theorem vals_nk : ∀ {ks : List NK} {us : List Value}, Vals (ks.map fun p => V.ref p.1) us → us = ks.map fun p => Value.ref p.1
  | [], _, .nil => rfl
  | _ :: ks, _, .cons a b => by
    cases a
    exact congrArg _ (vals_nk b)
section
variable {X : Cx}
theorem cr_setN (hc : X.calm = true) (hu : X.A.units + 64 < cLine) : CallR X (.type "set") (rSetN X.K X.w) := by
  intro pins s σ H xs us Q I r q
  obtain ⟨l, ks, rfl, hl, hk, few, col, q⟩ := q
  rw [Vals.ref1 r]
  obtain ⟨its, rv, pl, _⟩ := I.list hl
  have free : H s.heap.objs.size = none := I.hok.fresh (Nat.le_refl _)
  refine callSetN (P := X.prog) (w := X.w) ks (I.ok.hd hc) pl.isList (by simpa using vals_nk rv) (fun p hp => nd_key I (hk p hp).1 (hk p hp).2) few col (by omega) fun h' tk L es ep t R g kp => ?_
  have len : (L.map (·.2)).length = L.length := List.length_map _
  refine ⟨.ref s.heap.objs.size, upd H s.heap.objs.size (SetL s.heap.objs.size (L.map (·.2)).length), I.laid (t' := tk) kp (Nat.le_refl _) (setL_new R len.symm), rfl, q _ (L.map (·.2)) free R.nd fun k => ⟨fun h => ?_, fun h => ?_⟩⟩
  · obtain ⟨p, hp, rfl⟩ := List.mem_map.mp h
    exact List.mem_map.mpr ⟨p, List.mem_of_mem_take (g.sub p hp), rfl⟩
  · obtain ⟨p, hp, rfl⟩ := List.mem_map.mp h
    exact g.all p (by rw [List.take_length]; exact hp)
theorem cr_lenS : CallR X (.builtin "len") (fun xs H Q => ∃ (a : Addr) (n : Nat), xs = [.ref a] ∧ H a = some (SetL a n) ∧ n ≤ 99000 ∧ Q (.int n) H) := by
  intro pins s σ H xs us Q I r q
  obtain ⟨a, n, rfl, ha, hn, q⟩ := q
  obtain ⟨u, rfl, rx⟩ := vals1 r
  cases rx
  obtain ⟨es, ep, t, ⟨o, ho, hex, hd⟩, hf, e⟩ := (I.hok a _ ha).1
  refine call_len_set ho hex hd hf (by omega) ?_
  rw [e]
  exact ⟨.int n, H, I.tok _, ⟨_, rfl⟩, q⟩
end
end My

set_option Elab.async false
set_option maxRecDepth 100000
set_option maxHeartbeats 4000000
set_option linter.all false
/-! None sought in a dict of nested tuples. -/
namespace My
open PySem PySem.Spec PyProof.Rows L2
section
variable {P : Program} {w : World} {A : Around} {E : Value → Shared → Prop} {s : Shared}
abbrev NQ (P : Program) (w : World) (h : Heap) (v : Value) : Prop := ∃ k b, v = .ref b ∧ (nestedKind P w).is h k b
theorem tell_none {stored : List Value} {Q : Bool → Shared → Prop} (hst : ∀ v ∈ stored, NQ P w s.heap v) (h : Q false s) : wpAny (model P w) A (tableMayTell .none stored) Q E s := by
  unfold tableMayTell
  split
  · exact wpAny_pure h
  · refine wpAny_bind (QuietAt.byValue (prog := P) (w := w) (n := 8) (s := s) (v := .none) rfl A E _ ?_)
    simp only [Bool.not_true, Bool.false_eq_true, if_false]
    refine wpAny_bind ?_
    refine wpAny_forIn_list _ (fun rest r s' => s' = s ∧ r = (none, ()) ∧ ∀ v ∈ rest, NQ P w s.heap v) _ ?_ ?_ _ _ ⟨rfl, rfl, hst⟩
    · rintro x rest r s' ⟨rfl, rfl, hr⟩
      obtain ⟨k, b, rfl, hb⟩ := hr x (.head _)
      refine wpAny_bind ((nestedKind P w).quiet hb ?_)
      simp only [Bool.not_true, Bool.false_eq_true, if_false]
      exact wpAny_pure ⟨rfl, rfl, fun v hv => hr v (.tail _ hv)⟩
    · rintro r s' ⟨rfl, rfl, _⟩
      exact wpAny_pure h
theorem find_none {d : Addr} {o : Obj} {es : Array DictEntry} {ep : Nat} {xs : List (NestedKey × Addr × Value)} {g : Int} {Q : Option Nat → Shared → Prop} (hu : A.units + 8 < cLine) (ho : s.heap.get? d = some o) (hd : o.data = .dict es ep)
    (he : es.toList = xs.map (entryOfKey (nestedKind P w))) (his : ∀ x ∈ xs, (nestedKind P w).is s.heap x.1 x.2.1) (h : Q none s) : wpAny (model P w) A (dictFind d .none g) Q E s := by
  have ent : ∀ (i : Nat) (e : DictEntry), es[i]? = some e → NQ P w s.heap e.key := fun i e q => by
    rw [entry_at he i] at q
    obtain ⟨x, hx, rfl⟩ := Option.map_eq_some_iff.mp q
    exact ⟨x.1, x.2.1, rfl, his x (List.mem_of_getElem? hx)⟩
  have hst : ∀ v ∈ (placesWithHash es.size (fun i => es[i]?.map (·.hash)) g).filterMap (fun i => es[i]?.map (·.key)), NQ P w s.heap v := fun v hv => by
    obtain ⟨i, _, hi⟩ := List.mem_filterMap.mp hv
    obtain ⟨e, q, rfl⟩ := Option.map_eq_some_iff.mp hi
    exact ent i e q
  unfold dictFind
  try with_reducible refine wpAny_holding ?_
  refine wpAny_bind (wpAny_dictEntries ho hd ?_)
  dsimp only
  by_cases hall : ((Value.none :: (placesWithHash es.size (fun i => es[i]?.map (·.hash)) g).filterMap (fun i => es[i]?.map (·.key))).all carriedByValue) = true
  · rw [if_pos hall]
    have none_of : ∀ i ∈ placesWithHash es.size (fun i => es[i]?.map (·.hash)) g, es[i]? = none := fun i hi => by
      cases q : es[i]? with
      | none => rfl
      | some e =>
        obtain ⟨k, b, eb, _⟩ := ent i e q
        have := List.all_eq_true.mp hall e.key (.tail _ (List.mem_filterMap.mpr ⟨i, hi, by rw [q]; rfl⟩))
        rw [eb] at this
        cases this
    unfold dictWalkPlain
    refine wpAny_bind ?_
    refine wpAny_forIn_list _ (fun rest r s' => s' = s ∧ r = (none, ()) ∧ ∀ i ∈ rest, es[i]? = none) _ ?_ ?_ _ _ ⟨rfl, rfl, none_of⟩
    · rintro i rest r s' ⟨rfl, rfl, hn⟩
      rw [hn i (.head _)]
      exact wpAny_pure ⟨rfl, rfl, fun j hj => hn j (.tail _ hj)⟩
    · rintro r s' ⟨rfl, rfl, _⟩
      exact wpAny_pure h
  · rw [if_neg hall]
    by_cases hone : (((placesWithHash es.size (fun i => es[i]?.map (·.hash)) g).filterMap (fun i => es[i]?.map (·.key))) == [Value.none]) = true <;>
    (first | rw [if_pos hone] | rw [if_neg hone]) <;> (first | refine wpAny_bind (wpAny_pure ?_) | refine wpAny_bind (tell_none hst ?_)) <;> (
      rw [if_neg (by simp)]
      refine wpAny_bind ?_
      refine wpAny_forIn_list _ (fun rest b s' => s' = s ∧ b = (none, none)) _ ?_ ?_ _ _ ⟨rfl, rfl⟩
      · rintro i rest b s' ⟨rfl, rfl⟩
        cases q : es[i]? with
        | none => exact wpAny_pure ⟨rfl, rfl⟩
        | some e =>
          obtain ⟨k, b, eb, hk⟩ := ent i e q
          dsimp only
          by_cases hh : (e.hash == g) = true
          · rw [if_pos hh, eb]
            have kt : NestedKey.beq k .none = false := by
              cases hk.1
              rfl
            refine wpAny_bind (wpAny_dictEpoch ho hd (wpAny_bind (eqAt_key k .none A s' _ _ hk.1 .none (by simp only [NestedKey.depth]; omega) _ _ _ _ (wpAny_bind (wpAny_dictEpoch ho hd ?_)))))
            show wpAny _ _ (if (ep != ep) = true then _ else _) _ E _
            rw [if_neg (by simp), kt]
            simp only [Bool.false_eq_true, if_false]
            refine wpAny_bind (wpAny_rule ?_)
            first | rw [if_neg (by simp)] | skip
            first
              | exact wpAny_pure ⟨rfl, rfl⟩
              | exact wpAny_bind (wpAny_pure (wpAny_pure ⟨rfl, rfl⟩))
          · rw [if_neg hh]
            exact wpAny_pure ⟨rfl, rfl⟩
      · rintro b s' ⟨rfl, rfl⟩
        exact wpAny_pure h)
theorem in_none {d : Addr} {xs : List (NestedKey × Addr × Value)} {Q : Value → Shared → Prop} (hu : A.in1.units + 8 < cLine) (lo : (d == sysModules) = false) (hm : s.heap.DictOfH (nestedKind P w) d xs) (h : Q (.bool false) { s with toks := s.toks + 1 }) :
    wpAny (model P w) A (compareOp .In .none (.ref d)) Q E s := by
  show wpAny _ _ (do return .bool (← contains (.ref d) .none)) Q E s
  refine wpAny_bind ?_
  unfold contains
  try with_reducible refine wpAny_holding ?_
  refine wpAny_bind (wpAny_specialOf hm.typeIs slot_dict_contains.lookup ?_)
  show wpAny _ _ (if (some (Value.builtin "dict.__contains__") == some Value.none) = true then _ else _) _ E s
  rw [if_neg (by rw [beq_builtin_none]; exact Bool.false_ne_true)]
  refine wpAny_bind (wpAny_callSpecialUnlessNone?_slot (name := Str.ofString "__contains__") hm.typeIs slot_dict_contains (wpAny_call_entry slot_dict_contains hm.typeIs entry_dict_contains ?_ (args_dict_contains _ _)))
  show wpAny _ _ (dictGet d .none >>= _) _ _ s
  obtain ⟨o, es, ep, ho, _, hd, he, his, hn⟩ := hm
  refine wpAny_bind ?_
  unfold dictGet
  try with_reducible refine wpAny_holding ?_
  refine wpAny_bind (pyHash_key (w := w) .none .none _ s _ .none (Nat.lt_of_le_of_lt (by simp only [NestedKey.depth]; exact Nat.le_add_right _ 8) hu) ?_)
  refine wpAny_bind (find_none (s := { s with toks := s.toks + NestedKey.draws .none }) hu ho hd he his ?_)
  refine wpAny_pure ?_
  show wpAny _ _ (Builtin.Dict.pendingKey? d .none >>= _) _ _ _
  exact wpAny_bind (wpAny_pendingKey_other lo (wpAny_pure ⟨_, rfl, wpAny_truthy_bool (wpAny_pure h)⟩))
end
/-- a nested key, or None, in d -/
def tNIn2 (P : Program) (w : World) (ty td : TE) : TE := fun σ H Q => ty σ H fun y H1 => td σ H1 fun x H2 => (∃ kvs k a b, NdK P w H2 x y kvs k a b ∧ Q (.bl (getN kvs k).isSome) H2) ∨ (∃ kvs a, x = .ref a ∧ y = .non ∧ DN P w H2 a kvs ∧ Q (.bl false) H2)
section
variable {X : Cx} {i o : Expr} {ty td : TE}
theorem pc_nin2 (hu : X.A.units + 64 < cLine) (hi : PE X i ty) (ho : PE X o td) : PC X .In i o (tNIn2 X.prog X.w ty td) := by
  refine ⟨fun pins s σ H Q I h => ?_⟩
  refine thn (hi.run pins s σ H _ I h) fun iv s1 ⟨y, H1, I1, ry, q1⟩ => thn (ho.run pins s1 σ H1 _ I1 q1) fun u s2 ⟨x, H2, I2, rx, q2⟩ => ?_
  rcases q2 with ⟨kvs, k, a, b, ⟨ex, ey, d, hk, hd⟩, q2⟩ | ⟨kvs, a, ex, ey, d, q2⟩
  · subst ex ey
    obtain rfl : u = Value.ref a := rx
    obtain rfl : iv = Value.ref b := ry
    exact nd_in hu I2 d hk hd fun s3 I3 => ⟨.bl _, H2, I3, rfl, q2⟩
  · subst ex ey
    obtain rfl : u = Value.ref a := rx
    cases ry
    obtain ⟨lo, _, xs, r, dd⟩ := nd_rd I2.hok d
    exact in_none (nd_room (X := X) hu) lo dd ⟨.bl _, H2, I2.tok _, rfl, q2⟩
end
end My

set_option Elab.async false
set_option maxRecDepth 100000
set_option maxHeartbeats 4000000
set_option linter.all false
namespace C81
open PySem L2 My M78
abbrev sAre : Stmt := top 56
abbrev nAre : List Str := ["_law_found", "_law_states", "_law_there", "_law_one_here"]
theorem scAre : FnScope nAre ["_law_found", "_law_states"] (defScope sAre) := ⟨rfl, rfl, rfl, by decide +kernel, rfl, by decide +kernel, by decide +kernel⟩

theorem fnd_all : ∀ (ds : List PyData) (acc : List (List Row)), acc.Nodup → (ds.foldl addS acc).Nodup ∧ ∀ xs, xs ∈ ds.foldl addS acc ↔ xs ∈ acc ∨ ∃ d ∈ ds, isStD d = some xs
  | [], acc, hn => ⟨hn, fun xs => ⟨.inl, fun h => h.elim (fun h => h) fun ⟨_, h, _⟩ => nomatch h⟩⟩
  | d :: ds, acc, hn => by
    have step : (addS acc d).Nodup ∧ ∀ xs, xs ∈ addS acc d ↔ xs ∈ acc ∨ isStD d = some xs := by
      unfold addS
      cases e : isStD d with
      | none => exact ⟨hn, fun xs => ⟨.inl, fun h => h.elim (fun h => h) fun h => nomatch h⟩⟩
      | some ys =>
        dsimp only
        by_cases c : ys ∈ acc
        · rw [if_pos c]
          refine ⟨hn, fun xs => ⟨.inl, fun h => h.elim (fun h => h) fun h => ?_⟩⟩
          cases h
          exact c
        · rw [if_neg c]
          refine ⟨List.nodup_append.mpr ⟨hn, List.nodup_cons.mpr ⟨List.not_mem_nil, List.nodup_nil⟩, fun x hx z hz => ?_⟩, fun xs => ?_⟩
          · rw [List.mem_singleton.mp hz]
            exact fun q => c (q ▸ hx)
          · rw [List.mem_append, List.mem_singleton]
            exact ⟨fun h => h.imp id fun h => by rw [h], fun h => h.imp id fun h => (Option.some.inj h).symm⟩
    obtain ⟨n2, m2⟩ := fnd_all ds (addS acc d) step.1
    refine ⟨n2, fun xs => (m2 xs).trans ?_⟩
    rw [step.2]
    constructor
    · rintro ((h | h) | ⟨e, he, h⟩)
      · exact .inl h
      · exact .inr ⟨d, .head _, h⟩
      · exact .inr ⟨e, .tail _ he, h⟩
    · rintro (h | ⟨e, he, h⟩)
      · exact .inl (.inl h)
      · rcases List.mem_cons.mp he with rfl | he
        · exact .inl (.inr h)
        · exact .inr ⟨e, he, h⟩
theorem fnd_nodup (ds : List PyData) : (fnd ds).Nodup := (fnd_all ds [] List.nodup_nil).1
theorem fnd_mem {ds : List PyData} {xs : List Row} : xs ∈ fnd ds ↔ ∃ d ∈ ds, isStD d = some xs := ((fnd_all ds [] List.nodup_nil).2 xs).trans ⟨fun h => h.elim (fun h => nomatch h) fun h => h, .inr⟩
/-- one of these states -/
def inF (fs : List (List Row)) (d : PyData) : Bool := match stP d with
  | some xs => decide (xs ∈ fs)
  | none => false
theorem inF_some {fs : List (List Row)} {d : PyData} (h : inF fs d = true) : ∃ xs, stP d = some xs ∧ xs ∈ fs := by
  unfold inF at h
  cases e : stP d with
  | none =>
    rw [e] at h
    cases h
  | some xs =>
    rw [e] at h
    exact ⟨xs, rfl, of_decide_eq_true h⟩
theorem inF_st {fs : List (List Row)} (good : ∀ xs ∈ fs, xs.all goodR = true) {d : PyData} {xs : List Row} (h : stP d = some xs) (hm : xs ∈ fs) : isStD d = some xs := by
  unfold isStD
  rw [h]
  show (if xs.all goodR = true then some xs else none) = some xs
  rw [if_pos (good xs hm)]
theorem all1_inF {fs : List (List Row)} (good : ∀ xs ∈ fs, xs.all goodR = true) {ds : List PyData} (h : ds.all (inF fs) = true) : all1 fs ds = decide ((fnd ds).length = fs.length) := by
  have each := List.all_eq_true.mp h
  have h1 : (ds.all fun d => (isStD d).isSome) = true := List.all_eq_true.mpr fun d hd => by
    obtain ⟨xs, e, hm⟩ := inF_some (each d hd)
    rw [inF_st good e hm]
    rfl
  have h2 : ((fnd ds).all fun xs => decide (xs ∈ fs)) = true := List.all_eq_true.mpr fun xs hx => by
    obtain ⟨d, hd, e⟩ := fnd_mem.mp hx
    obtain ⟨ys, e2, hm⟩ := inF_some (each d hd)
    rw [inF_st good e2 hm] at e
    cases e
    exact decide_eq_true hm
  unfold all1
  rw [h1, h2, Bool.true_and, Bool.and_true]
theorem all1_off {fs : List (List Row)} {ds : List PyData} (h : ds.all (inF fs) = false) : all1 fs ds = false := by
  rw [← Bool.not_eq_true]
  intro e
  unfold all1 at e
  rw [Bool.and_eq_true_iff, Bool.and_eq_true_iff] at e
  obtain ⟨e1, _, e3⟩ := e
  obtain ⟨d, hd, hf⟩ := List.all_eq_false.mp h
  refine hf ?_
  obtain ⟨xs, ex⟩ := Option.isSome_iff_exists.mp (List.all_eq_true.mp e1 d hd)
  have := of_decide_eq_true (List.all_eq_true.mp e3 xs (fnd_mem.mpr ⟨d, hd, ex⟩))
  unfold inF
  rw [(isStD_some ex).1]
  exact decide_eq_true this
/-- what the law makes of one -/
def ThV (H : Hp) (v : V) (d : PyData) : Prop := (∃ xs q, stP d = some xs ∧ v = .ref q ∧ Tp H (.ref q) (stD xs)) ∨ (stP d = none ∧ v = .non)
inductive ThA (H : Hp) : List V → List PyData → Prop
  | nil : ThA H [] []
  | snoc {vs : List V} {ds : List PyData} {v : V} {d : PyData} : ThA H vs ds → ThV H v d → ThA H (vs ++ [v]) (ds ++ [d])
theorem ThV.mono {H H' : Hp} (s : KeepT H H') {v : V} {d : PyData} (h : ThV H v d) : ThV H' v d := h.imp (fun ⟨xs, q, e1, e2, t⟩ => ⟨xs, q, e1, e2, t.mono s⟩) fun h => h
theorem ThA.mono {H H' : Hp} (s : KeepT H H') : ∀ {vs : List V} {ds : List PyData}, ThA H vs ds → ThA H' vs ds
  | _, _, .nil => .nil
  | _, _, .snoc a b => .snoc (a.mono s) (b.mono s)
theorem ThA.len {H : Hp} : ∀ {vs : List V} {ds : List PyData}, ThA H vs ds → vs.length = ds.length
  | _, _, .nil => rfl
  | _, _, .snoc a _ => by rw [List.length_append, List.length_append, a.len]; rfl
theorem ThA.get {H : Hp} {vs : List V} {ds : List PyData} (h : ThA H vs ds) : ∀ {i : Nat} {v : V}, vs[i]? = some v → ∃ d, ds[i]? = some d ∧ ThV H v d := by
  induction h with
  | nil => intro i v e; simp at e
  | @snoc vs ds v d a b ih =>
    intro i u e
    by_cases c : i < vs.length
    · rw [List.getElem?_append_left c] at e
      obtain ⟨x, hx, t⟩ := ih e
      exact ⟨x, by rw [List.getElem?_append_left (by rw [← a.len]; exact c)]; exact hx, t⟩
    · rw [List.getElem?_append_right (by omega)] at e
      have hi : i - vs.length = 0 := by
        have := (List.getElem?_eq_some_iff.mp e).1
        have h1 : i - vs.length < 1 := this
        omega
      rw [hi] at e
      cases e
      exact ⟨d, by rw [List.getElem?_append_right (by rw [← a.len]; omega), ← a.len, hi]; rfl, b⟩
/-- all of them are states: as keys -/
theorem ThA.keys {H : Hp} {fs : List (List Row)} {vs : List V} {ds : List PyData} (h : ThA H vs ds) (hf : ds.all (inF fs) = true) :
    ∃ ks : List NK, vs = ks.map (fun p => V.ref p.1) ∧ (∀ p ∈ ks, KtV H (.ref p.1) p.2 ∧ p.2.depth ≤ 8) ∧ ∀ k, k ∈ ks.map (·.2) ↔ ∃ d ∈ ds, ∃ xs, stP d = some xs ∧ xs ∈ fs ∧ k = sk xs := by
  induction h with
  | nil => exact ⟨[], rfl, (fun p hp => nomatch hp), fun k => ⟨(fun h => nomatch h), fun ⟨_, h, _⟩ => nomatch h⟩⟩
  | @snoc vs ds v d a b ih =>
    rw [List.all_append, Bool.and_eq_true_iff] at hf
    obtain ⟨ks, e, hk, hm⟩ := ih hf.1
    obtain ⟨xs, est, hxs⟩ := inF_some (List.all_eq_true.mp hf.2 d (.head _))
    rcases b with ⟨ys, q, e1, rfl, t⟩ | ⟨e1, _⟩
    · rw [est] at e1
      cases e1
      refine ⟨ks ++ [(q, sk xs)], by rw [e, List.map_append]; rfl, fun p hp => ?_, fun k => ?_⟩
      · rcases List.mem_append.mp hp with hp | hp
        · exact hk p hp
        · rw [List.mem_singleton.mp hp]
          exact ⟨t.key, sk_depth xs⟩
      · rw [List.map_append, List.mem_append, hm]
        constructor
        · rintro (⟨d2, h2, r⟩ | h)
          · exact ⟨d2, List.mem_append_left _ h2, r⟩
          · exact ⟨d, List.mem_append_right _ (.head _), xs, est, hxs, List.mem_singleton.mp h⟩
        · rintro ⟨d2, h2, ys, e2, m2, rfl⟩
          rcases List.mem_append.mp h2 with h2 | h2
          · exact .inl ⟨d2, h2, ys, e2, m2, rfl⟩
          · rw [List.mem_singleton.mp h2, est] at e2
            cases e2
            exact .inr (.head _)
    · rw [est] at e1
      cases e1
theorem nodup_len_eq {α : Type} [DecidableEq α] {l m : List α} (h1 : l.Nodup) (h2 : m.Nodup) (h : ∀ x, x ∈ l ↔ x ∈ m) : l.length = m.length := Nat.le_antisymm (nodup_le h1 fun x hx => (h x).mp hx) (nodup_le h2 fun x hx => (h x).mpr hx)
section
variable {P : Program} {w : World} {K : PySem.W.Frag} {mg : Str → Option Value} {base : Heap}

def spAre (P : Program) (w : World) : Sp := fun vs H Q _ => ∃ (m D : Addr) (o : HO) (x : V) (bs : List BE) (sd : PyData), vs = [.ref D, x] ∧ H m = some o ∧ Sd P w H D bs ∧ Ax m H x sd ∧ (∀ ds, Sq2 sd ds → ds.length ≤ 99000 ∧ ∀ e ∈ ds, ∀ es, Sq2 e es → es.length ≤ 1000) ∧ (∀ b ∈ bs, b.1.all goodR = true) ∧ FewN w (bs.map fun b => sk b.1) ∧
  ∀ H', Same H H' → Q (.bl (allD (bs.map (·.1)) sd)) H'
theorem pr_are (D' : Df K mg "_law_are_all" sAre ["_law_found", "_law_states"]) (T : Ty mg) (TSt : mg "set" = none) (PSo : Pr P w K mg base 1 "_law_state_of" ["_law_thing"] spSto) : Pr P w K mg base 2 "_law_are_all" ["_law_found", "_law_states"] (spAre P w) := by
  refine D'.pr scAre (fun vs H Q E h => ?_) (fun f cdv A outer s H vs Q E hr h => ?_)
  · obtain ⟨m, D, o, x, bs, sd, rfl, _⟩ := h
    rfl
  · obtain ⟨m, D, o, x, bs, sd, rfl, hm, sdD, hx, hsz, good, few, k⟩ := h
    have nd := scAre.nd
    refine ⟨_, (pss_cons (ps_if (pt_not (pt_val (pe_callB call_isiT (by rfl) T.isinstance (by decide +kernel) (pa_cons (pv 1) (pa_cons (pe_tup (pa_cons (pe_bltn (v := .ty "list") (by rfl) T.list (by decide +kernel) rfl) (pa_cons (pe_bltn (v := .ty "tuple") (by rfl) T.tuple (by decide +kernel) rfl) pa_nil))) pa_nil)))))
        (pss_one (ps_ret pe_bl))
        pss_nil)
      (pss_cons (ps_setLc (i := 2) (own := [("_law_one_here", 3)]) (g := gName 3) (tt := tYes) (te := tCall spSto [] E0 (tCons (tVar 3) tNil)) (by rfl) nd rfl rfl (sw_true rfl rfl rfl (by decide +kernel)) (pi_sq (pv 1))
  (blkOk_by (own := [("_law_one_here", 3)]) (N := nAre) (sc := defScope sAre) (by decide +kernel))
  (fun _ _ _ _ _ => pg_name (i := 3) nd rfl (Or.inl rfl) (Or.inr rfl)) (fun _ _ _ _ _ => pts_nil)
  (fun _ _ _ _ _ => (pe_callP PSo hr (by rfl) (pa_cons (pv 3) pa_nil))))
      (pss_one (ps_ret (pe_and (pe_callB (cr_all rfl) (by rfl) T.all (by decide +kernel) (pa_cons (pe_lc (own := [("_law_one_here", 3)]) (g := gName 3) (tt := tYes) (te := tNIn2 P w (tVar 3) (tVar 0)) (by rfl) nd (pi_list (pv 2))
  (blkOk_by (own := [("_law_one_here", 3)]) (N := nAre) (sc := defScope sAre) (by decide +kernel))
  (fun _ _ _ _ _ => pg_name (i := 3) nd rfl (Or.inl rfl) (Or.inr rfl)) (fun _ _ _ _ _ => pts_nil)
  (fun _ _ _ _ _ => (pe_cmp (pc_nin2 hr.units (pv 3) (pv 0)) rfl))) pa_nil)) (pe_one (pe_cmpR op_eq (pe_callB cr_lenS (by rfl) T.len PySem.boot_len (pa_cons (pe_callTy (cr_setN rfl hr.units) (by rfl) TSt (by decide +kernel) (pa_cons (pv 2) pa_nil)) pa_nil)) (pe_callB call_lenN (by rfl) T.len PySem.boot_len (pa_cons (pv 0) pa_nil)) (nomark _)))))))), ?_⟩
    refine ⟨_, rfl, (by show 2 ≤ sizeLine; decide), fun tp htp => ?_⟩
    generalize hH1 : upd H tp _ = H1
    have s1 : Same H H1 := hH1 ▸ Same.new htp
    have e1 : H1 tp = some (.tup [.ty "list", .ty "tuple"]) := hH1 ▸ upd_same
    clear hH1
    dsimp only [tNil]
    refine ax_isiT (hx.mono (Same.but (m := m) s1)) e1 ?_
    refine ⟨_, rfl, ?_⟩
    cases hlt : isLT sd
    · refine iteT ?_
      rw [← allD_no (ls := bs.map (·.1)) hlt]
      exact k _ s1
    obtain ⟨ds, sq⟩ := isLT_sq hlt
    obtain ⟨p, us, rfl, np, hsq, hus⟩ := ax_sq hx sq
    have lus := hus.length
    obtain ⟨hz, hz2⟩ := hsz ds sq
    have hall : allD (bs.map (·.1)) sd = all1 (bs.map (·.1)) ds := allD_sq sq
    have good' : ∀ xs ∈ bs.map (·.1), xs.all goodR = true := fun xs hx => by
      obtain ⟨b, hb, rfl⟩ := List.mem_map.mp hx
      exact good b hb
    refine iteF ?_
    refine isq (a := p) (us := us) (fun Q q => ⟨_, rfl, q⟩) (hsq.same s1) (fun J G W hG => fun Dl hDl => ?_)
    refine lc_it W (fun i H2 => Same H1 H2 ∧ ∃ zs, H2 Dl = some (.lst zs) ∧ ThA H2 zs (ds.take i)) ?_ ?_ ?_ ?_
    · exact ⟨same_new hDl, [], upd_same, .nil⟩
    · exact fun i H2 _ q => hG _ (fun _ e => q.1 _ _ e)
    · rintro i y H9 H2 hi ⟨s2, zs, hl2, th⟩ ⟨e9, ey⟩
      subst e9
      obtain ⟨dx, ex, ax⟩ := hus.get ey
      have s12 := Same.tr s1 s2
      have lz : zs.length < sizeLine := by
        rw [th.len, List.length_take]
        exact small7 (by omega)
      have fin : ∀ (v : V) (H3 : Hp), Same H2 H3 → ThV H3 v dx → ∃ acc, H3 Dl = some (.lst acc) ∧ acc.length < sizeLine ∧ Same H1 (upd H3 Dl (.lst (acc ++ [v]))) ∧ ∃ zs, upd H3 Dl (.lst (acc ++ [v])) Dl = some (.lst zs) ∧ ThA (upd H3 Dl (.lst (acc ++ [v]))) zs (ds.take (i + 1)) := fun v H3 s3 hv => by
        have hl3 := s3 _ _ hl2
        refine ⟨zs, hl3, lz, fun b u e => ?_, zs ++ [v], upd_same, ?_⟩
        · rw [upd_ne (ne_of_none e hDl)]
          exact s3 _ _ (s2 _ _ e)
        · rw [take_succ' ex]
          exact .snoc ((th.mono (.same s3)).mono (.lst hl3)) (hv.mono (.lst hl3))
      refine ⟨rfl, ?_⟩
      refine ⟨_, rfl, m, o, y, dx, rfl, s12 _ _ hm, ax.mono (Same.but (m := m) s12), hz2 dx (List.mem_of_getElem? ex), fun xs e q H3 s3 nq t => ?_, fun e H3 s3 => ?_⟩
      · exact fin _ H3 s3 (.inl ⟨xs, q, e, rfl, t⟩)
      · exact fin _ H3 s3 (.inr ⟨e, rfl⟩)
    · rintro H2 ⟨s2, zs, hl2, th⟩
      rw [lus, List.take_length] at th
      have s12 := Same.tr s1 s2
      have sd2 := sdD.same s12
      have lzs := th.len
      refine ⟨_, rfl, Dl, rfl, ⟨_, SqL.of hl2⟩, fun Db hDb => ?_⟩
      refine lc_list (K := K) (a := Dl) (xs := zs) (fun i H3 => Same H2 H3 ∧ H3 Db = some (.lst (((ds.take i).map (inF (bs.map (·.1)))).map V.bl))) ?_ ?_ ?_ ?_
      · exact ⟨same_new hDb, upd_same⟩
      · exact fun i H3 _ q => SqL.of (q.1 _ _ hl2)
      · rintro i v H3 hv ⟨s3, hl3⟩
        obtain ⟨dx, ex, tv⟩ := th.get hv
        have hil : i < ds.length := (List.getElem?_eq_some_iff.mp ex).1
        have fin : ∃ acc, H3 Db = some (.lst acc) ∧ acc.length < sizeLine ∧ Same H2 (upd H3 Db (.lst (acc ++ [.bl (inF (bs.map (·.1)) dx)]))) ∧ upd H3 Db (.lst (acc ++ [.bl (inF (bs.map (·.1)) dx)])) Db = some (.lst (((ds.take (i + 1)).map (inF (bs.map (·.1)))).map V.bl)) := by
          refine ⟨_, hl3, ?_, ?_, ?_⟩
          · rw [List.length_map, List.length_map, List.length_take]
            exact small7 (by omega)
          · intro b u e
            rw [upd_ne (ne_of_none e hDb)]
            exact s3 _ _ e
          · rw [upd_same, take_succ' ex, List.map_append, List.map_append]
            rfl
        refine ⟨rfl, ?_⟩
        refine ⟨_, rfl, _, rfl, ?_⟩
        rcases tv with ⟨xs, q, e, rfl, t⟩ | ⟨e, rfl⟩
        · refine .inl ⟨bs.map kvB, sk xs, D, q, (sd2.same s3).key (t.mono (.same s3)), ?_⟩
          rw [getB_is, getB_isSome]
          have : inF (bs.map (·.1)) dx = decide (xs ∈ bs.map (·.1)) := by
            unfold inF
            rw [e]
          rw [← this]
          exact fin
        · refine .inr ⟨bs.map kvB, D, rfl, rfl, (sd2.same s3).dn, ?_⟩
          have : inF (bs.map (·.1)) dx = false := by
            unfold inF
            rw [e]
          rw [this] at fin
          exact fin
      · rintro H3 ⟨s3, hl3⟩
        rw [lzs, List.take_length] at hl3
        refine ⟨_, _, rfl, SqL.of hl3, ?_⟩
        have ea : (ds.map (inF (bs.map (·.1)))).all id = ds.all (inF (bs.map (·.1))) := by
          rw [List.all_map]
          rfl
        rw [ea]
        have s13 := Same.tr s12 s3
        refine ⟨_, rfl, ?_⟩
        cases hin : ds.all (inF (bs.map (·.1)))
        · refine iteF ?_
          rw [← all1_off hin, ← hall]
          exact k _ s13
        refine iteT ?_
        obtain ⟨ks, ek, hk, hmem⟩ := th.keys hin
        have lk : ks.length = ds.length := by rw [← lzs, ek, List.length_map]
        refine ⟨_, rfl, ?_⟩
        dsimp only [tNil]
        refine ⟨Dl, ks, rfl, SqL.of (by rw [← ek]; exact s3 _ _ hl2), fun p hp => ⟨(hk p hp).1.mono (fun a xs e => s3 _ _ e), (hk p hp).2⟩, by omega, few.sub fun k hk => ?_, fun a js nA njs hjs => ?_⟩
        · obtain ⟨d, hd, xs, _, hx, rfl⟩ := (hmem k).mp hk
          obtain ⟨b, hb, rfl⟩ := List.mem_map.mp hx
          exact List.mem_map.mpr ⟨b, hb, rfl⟩
        have jlen : js.length = (fnd ds).length := by
          rw [← List.length_map (f := sk) (as := fnd ds)]
          refine nodup_len_eq njs (List.Pairwise.map sk (fun a b hne e => hne (sk_inj e)) (fnd_nodup ds)) fun k => ?_
          rw [hjs, hmem, List.mem_map]
          constructor
          · rintro ⟨d, hd, xs, e, hx, rfl⟩
            exact ⟨xs, fnd_mem.mpr ⟨d, hd, inF_st good' e hx⟩, rfl⟩
          · rintro ⟨xs, hx, rfl⟩
            obtain ⟨d, hd, e⟩ := fnd_mem.mp hx
            obtain ⟨ys, e2, hy⟩ := inF_some (List.all_eq_true.mp hin d hd)
            rw [inF_st good' e2 hy] at e
            cases e
            exact ⟨d, hd, _, e2, hy, rfl⟩
        generalize hH4 : upd H3 a _ = H4
        have s4 : Same H3 H4 := hH4 ▸ Same.new nA
        have e4 : H4 a = some (SetL a js.length) := hH4 ▸ upd_same
        clear hH4
        have lf := fnd_len ds ds.length
        rw [List.take_length] at lf
        refine ⟨a, js.length, rfl, e4, by omega, ?_⟩
        refine ⟨_, rfl, D, bs.map kvB, rfl, ((sd2.same s3).same s4).dn, rfl, ?_⟩
        rw [vint, List.length_map, jlen]
        have : decide (((fnd ds).length : Int) = (bs.length : Int)) = allD (bs.map (·.1)) sd := by
          rw [hall, all1_inF good' hin, List.length_map]
          exact decide_eq_decide.mpr (by omega)
        rw [this]
        exact k _ (Same.tr s13 s4)
end
end C81

set_option Elab.async false
set_option maxRecDepth 100000
set_option maxHeartbeats 4000000
set_option linter.all false
/-! How tuples' hashes differ: the last part decides. -/
namespace My
open PySem PySem.Spec PyProof.Rows L2
abbrev m64 : Nat := 2 ^ 64
/-- one part -/
def lane (acc : Nat) (h : Int) : Nat :=
  let a := (acc + (h % (m64 : Int)).toNat * 14029467366897019727) % m64
  (((a * 2 ^ 31) % m64 + a / 2 ^ 33) * 11400714785074694791) % m64
def endH (acc n : Nat) : Int :=
  let a := (acc + (n ^^^ (2870177450012600261 ^^^ 3527539))) % m64
  if a == m64 - 1 then 1546275796 else if a < 2 ^ 63 then a else (a : Int) - m64
theorem hash_lanes (hs : List Int) : Builtin.Tuple.tupleHashOf hs = endH (hs.foldl lane 2870177450012600261) hs.length := rfl
theorem mul_odd_inj {p x y : Nat} (hp : p % 2 = 1) (hx : x < m64) (hy : y < m64) (h : x * p % m64 = y * p % m64) : x = y := by
  have key : ∀ x y : Nat, x < m64 → y ≤ x → x * p % m64 = y * p % m64 → x = y := fun x y hx hle h => by
    have h2 := Nat.sub_mod_eq_zero_of_mod_eq h
    rw [← Nat.sub_mul] at h2
    have h3 : 2 ^ 64 ∣ x - y := (odd_co 64 hp).dvd_of_dvd_mul_right (Nat.dvd_of_mod_eq_zero h2)
    have := Nat.eq_zero_of_dvd_of_lt h3 (Nat.lt_of_le_of_lt (Nat.sub_le _ _) hx)
    omega
  rcases Nat.le_total y x with c | c
  · exact key x y hx c h
  · exact (key y x hy c h.symm).symm
theorem add_inj {a x y : Nat} (hx : x < m64) (hy : y < m64) (h : (a + x) % m64 = (a + y) % m64) : x = y := by
  unfold m64 at *
  omega
theorem rot_is (x : Nat) : (x * 2 ^ 31) % m64 = (x % 2 ^ 33) * 2 ^ 31 := by
  show (x * 2 ^ 31) % (2 ^ 33 * 2 ^ 31) = _
  rw [Nat.mul_mod_mul_right]
theorem rot_inj {x y : Nat} (hx : x < m64) (hy : y < m64) (h : (x * 2 ^ 31) % m64 + x / 2 ^ 33 = (y * 2 ^ 31) % m64 + y / 2 ^ 33) : x = y := by
  rw [rot_is, rot_is] at h
  have e1 := Nat.div_add_mod x (2 ^ 33)
  have e2 := Nat.div_add_mod y (2 ^ 33)
  have l1 : x / 2 ^ 33 < 2 ^ 31 := Nat.div_lt_of_lt_mul hx
  have l2 : y / 2 ^ 33 < 2 ^ 31 := Nat.div_lt_of_lt_mul hy
  generalize x / 2 ^ 33 = a at *
  generalize y / 2 ^ 33 = b at *
  generalize x % 2 ^ 33 = c at *
  generalize y % 2 ^ 33 = d at *
  omega
theorem rot_lt {x : Nat} (hx : x < m64) : (x * 2 ^ 31) % m64 + x / 2 ^ 33 < m64 := by
  rw [rot_is]
  have l1 : x / 2 ^ 33 < 2 ^ 31 := Nat.div_lt_of_lt_mul hx
  have l2 : x % 2 ^ 33 < 2 ^ 33 := Nat.mod_lt _ (by decide)
  unfold m64
  generalize x / 2 ^ 33 = a at *
  generalize x % 2 ^ 33 = c at *
  omega
theorem lane_lt (acc : Nat) (h : Int) : lane acc h < m64 := Nat.mod_lt _ (by decide)
theorem lane_inj {acc : Nat} {g h : Int} (e : lane acc g = lane acc h) : (g % (m64 : Int)).toNat = (h % (m64 : Int)).toNat := by
  have lt : ∀ i : Int, (i % (m64 : Int)).toNat < m64 := fun i => by
    have := Int.emod_lt_of_pos i (show (0 : Int) < (m64 : Int) by decide)
    have := Int.emod_nonneg i (show (m64 : Int) ≠ 0 by decide)
    omega
  unfold lane at e
  dsimp only at e
  have e1 := mul_odd_inj (by decide) (rot_lt (Nat.mod_lt _ (by decide))) (rot_lt (Nat.mod_lt _ (by decide))) e
  have e2 := rot_inj (Nat.mod_lt _ (by decide)) (Nat.mod_lt _ (by decide)) e1
  rw [← Nat.add_mod_mod acc, ← Nat.add_mod_mod acc ((h % (m64 : Int)).toNat * 14029467366897019727)] at e2
  exact mul_odd_inj (by decide) (lt g) (lt h) (add_inj (Nat.mod_lt _ (by decide)) (Nat.mod_lt _ (by decide)) e2)
/-- what stands before the hash -/
def bare (a : Nat) : Int := if a < 2 ^ 63 then a else (a : Int) - m64
theorem bare_inj {a b : Nat} (ha : a < m64) (hb : b < m64) (h : bare a = bare b) : a = b := by
  unfold bare m64 at *
  split at h <;> split at h <;> omega
theorem end_is (acc n : Nat) : reduceHash (endH acc n) = if (acc + (n ^^^ (2870177450012600261 ^^^ 3527539))) % m64 = m64 - 1 then 1546275796 else bare ((acc + (n ^^^ (2870177450012600261 ^^^ 3527539))) % m64) := by
  have lt : (acc + (n ^^^ (2870177450012600261 ^^^ 3527539))) % m64 < m64 := Nat.mod_lt _ (by decide)
  unfold endH
  dsimp only
  generalize (acc + (n ^^^ (2870177450012600261 ^^^ 3527539))) % m64 = a at lt ⊢
  by_cases c : a = m64 - 1
  · rw [if_pos c, if_pos (beq_iff_eq.mpr c)]
    decide
  · rw [if_neg c, if_neg (fun e => c (beq_iff_eq.mp e))]
    show reduceHash (bare a) = bare a
    have hr : -(2 ^ 63 : Int) ≤ bare a ∧ bare a < 2 ^ 63 ∧ bare a ≠ -1 := by
      unfold bare m64 at *
      split <;> omega
    unfold reduceHash
    rw [if_pos (by rw [Bool.and_eq_true_iff]; exact ⟨decide_eq_true hr.1, decide_eq_true hr.2.1⟩), if_neg (fun e => hr.2.2 (beq_iff_eq.mp e))]
/-- at most two ends have one hash -/
theorem end_two (n : Nat) (l : List Nat) (g : Int) (nd : l.Nodup) (hl : ∀ a ∈ l, a < m64 ∧ reduceHash (endH a n) = g) : l.length ≤ 2 := by
  match l, nd, hl with
  | [], _, _ => exact Nat.zero_le _
  | [_], _, _ => exact Nat.le_succ _
  | [_, _], _, _ => exact Nat.le_refl _
  | a :: b :: c :: r, nd, hl =>
    exfalso
    obtain ⟨la, ha⟩ := hl a (.head _)
    obtain ⟨lb, hb⟩ := hl b (.tail _ (.head _))
    obtain ⟨lc, hc⟩ := hl c (.tail _ (.tail _ (.head _)))
    rw [end_is] at ha hb hc
    have nab : a ≠ b := fun e => (List.nodup_cons.mp nd).1 (e ▸ .head _)
    have nac : a ≠ c := fun e => (List.nodup_cons.mp nd).1 (e ▸ .tail _ (.head _))
    have nbc : b ≠ c := fun e => (List.nodup_cons.mp (List.nodup_cons.mp nd).2).1 (e ▸ .head _)
    generalize n ^^^ (2870177450012600261 ^^^ 3527539) = z at ha hb hc
    have inj : ∀ x y : Nat, x < m64 → y < m64 → (x + z) % m64 = (y + z) % m64 → x = y := fun x y hx hy e => add_inj (a := z) hx hy (by rw [Nat.add_comm z, Nat.add_comm z]; exact e)
    have one : ∀ x y : Nat, x < m64 → y < m64 → bare ((x + z) % m64) = g → bare ((y + z) % m64) = g → x = y := fun x y hx hy e1 e2 => inj x y hx hy (bare_inj (Nat.mod_lt _ (by decide)) (Nat.mod_lt _ (by decide)) (e1.trans e2.symm))
    have top : ∀ x y : Nat, x < m64 → y < m64 → (x + z) % m64 = m64 - 1 → (y + z) % m64 = m64 - 1 → x = y := fun x y hx hy e1 e2 => inj x y hx hy (e1.trans e2.symm)
    by_cases ca : (a + z) % m64 = m64 - 1
    · by_cases cb : (b + z) % m64 = m64 - 1
      · exact nab (top _ _ la lb ca cb)
      · rw [if_neg cb] at hb
        by_cases cc : (c + z) % m64 = m64 - 1
        · exact nac (top _ _ la lc ca cc)
        · rw [if_neg cc] at hc
          exact nbc (one _ _ lb lc hb hc)
    · rw [if_neg ca] at ha
      by_cases cb : (b + z) % m64 = m64 - 1
      · by_cases cc : (c + z) % m64 = m64 - 1
        · exact nbc (top _ _ lb lc cb cc)
        · rw [if_neg cc] at hc
          exact nac (one _ _ la lc ha hc)
      · rw [if_neg cb] at hb
        exact nab (one _ _ la lb ha hb)
end My

set_option Elab.async false
set_option maxRecDepth 100000
set_option maxHeartbeats 4000000
set_option linter.all false
namespace C81
open PySem L2 My M78
/-! how many states have one hash -/
def b2i (b : Bool) : Int := if b = true then 1 else 0
def rhash (x : Row) : Int := reduceHash (Builtin.Tuple.tupleHashOf [hashInt x.p, hashInt (b2i x.o), hashInt (b2i x.r), hashInt x.l])
theorem row_hash (w : World) (x : Row) : (keyOf (rowD x)).hash w = rhash x := by
  show NestedKey.hash w (.tup [.num x.p, .num (if x.o = true then 1 else 0), .num (if x.r = true then 1 else 0), .num x.l]) = _
  simp only [NestedKey.hash, NestedKey.hashes]
  rfl
theorem hashes_rows (w : World) : ∀ xs : List Row, NestedKey.hashes w (keysOf (xs.map rowD)) = xs.map rhash
  | [] => by
    show NestedKey.hashes w [] = _
    simp only [NestedKey.hashes]
    rfl
  | x :: xs => by
    show NestedKey.hashes w (keyOf (rowD x) :: keysOf (xs.map rowD)) = _
    simp only [NestedKey.hashes]
    rw [row_hash, hashes_rows w xs]
    rfl
theorem sk_hash (w : World) (xs : List Row) : (sk xs).hash w = reduceHash (endH ((xs.map rhash).foldl lane 2870177450012600261) xs.length) := by
  show NestedKey.hash w (.tup (keysOf (xs.map rowD))) = _
  simp only [NestedKey.hash]
  rw [hashes_rows, hash_lanes, List.length_map]
/-- all rows there are -/
def rowU : List Row := (List.range 9).flatMap fun p : Nat => [true, false].flatMap fun o => [true, false].flatMap fun r => (List.range 5).map fun l : Nat => ⟨(p : Int), o, r, (l : Int)⟩
theorem rowU_all : (rowU.map fun x => (rhash x % (m64 : Int)).toNat).Nodup := by decide +kernel
end C81

set_option Elab.async false
set_option maxRecDepth 100000
set_option maxHeartbeats 4000000
set_option linter.all false
namespace C81
open PySem L2 My M78
theorem map_inj_of {α β : Type} {f : α → β} : ∀ {l : List α}, (l.map f).Nodup → ∀ x ∈ l, ∀ y ∈ l, f x = f y → x = y
  | [], _, x, hx, _, _, _ => nomatch hx
  | a :: l, h, x, hx, y, hy, e => by
    rw [List.map_cons, List.nodup_cons] at h
    rcases List.mem_cons.mp hx with ex | hx2
    · rcases List.mem_cons.mp hy with ey | hy2
      · rw [ex, ey]
      · exact absurd (List.mem_map.mpr ⟨y, hy2, by rw [← ex]; exact e.symm⟩) h.1
    · rcases List.mem_cons.mp hy with ey | hy2
      · exact absurd (List.mem_map.mpr ⟨x, hx2, by rw [← ey]; exact e⟩) h.1
      · exact map_inj_of h.2 x hx2 y hy2 e
theorem rh_inj {acc : Nat} {x y : Row} (hx : x ∈ rowU) (hy : y ∈ rowU) (e : lane acc (rhash x) = lane acc (rhash y)) : x = y := map_inj_of rowU_all x hx y hy (lane_inj e)
def prodR : List (List Row) → List (List Row)
  | [] => [[]]
  | R :: RS => R.flatMap fun x => (prodR RS).map fun xs => x :: xs
def cbR : List (List Row) → Nat
  | [] => 1
  | [_] => 2
  | R :: RS => R.length * cbR RS
theorem flat_le {α β : Type} {l : List α} {f : α → List β} {b : Nat} (h : ∀ x ∈ l, (f x).length ≤ b) : (l.flatMap f).length ≤ l.length * b := by
  rw [List.length_flatMap]
  have := sum_le (l := l.map fun x => (f x).length) (b := b) fun y hy => by
    obtain ⟨x, hx, rfl⟩ := List.mem_map.mp hy
    exact h x hx
  rwa [List.length_map] at this
abbrev hitR (g : Int) (n acc : Nat) (xs : List Row) : Bool := decide (reduceHash (endH ((xs.map rhash).foldl lane acc) n) = g)
theorem flat_one {P : List Row → Bool} : ∀ R : List Row, (R.flatMap fun x => [[x]]).filter P = (R.filter fun x => P [x]).map fun x => [x]
  | [] => rfl
  | x :: R => by
    rw [List.flatMap_cons, List.filter_append, flat_one R, List.filter_cons, List.filter_cons]
    cases P [x] <;> rfl
theorem cnt_last (g : Int) (n acc : Nat) {R : List Row} (nd : R.Nodup) (hu : ∀ x ∈ R, x ∈ rowU) : (R.filter fun x => hitR g n acc [x]).length ≤ 2 := by
  have := end_two n ((R.filter fun x => hitR g n acc [x]).map fun x => lane acc (rhash x)) g ?_ ?_
  · rwa [List.length_map] at this
  · rw [List.nodup_iff_pairwise_ne, List.pairwise_map]
    refine List.Pairwise.imp_of_mem ?_ (List.Pairwise.filter _ nd)
    intro a b ha hb hne e
    exact hne (rh_inj (hu a (List.mem_filter.mp ha).1) (hu b (List.mem_filter.mp hb).1) e)
  · intro a ha
    obtain ⟨x, hx, rfl⟩ := List.mem_map.mp ha
    have h := of_decide_eq_true (List.mem_filter.mp hx).2
    rw [List.map_cons, List.map_nil, List.foldl_cons, List.foldl_nil] at h
    exact ⟨lane_lt _ _, h⟩
theorem cnt_hit (g : Int) (n : Nat) (RS : List (List Row)) (hU : ∀ R ∈ RS, R.Nodup ∧ ∀ x ∈ R, x ∈ rowU) (hne : RS ≠ []) : ∀ acc, ((prodR RS).filter (hitR g n acc)).length ≤ cbR RS := by
  induction RS with
  | nil => exact absurd rfl hne
  | cons R RS ih =>
    intro acc
    cases RS with
    | nil =>
      obtain ⟨nd, hu⟩ := hU R (.head _)
      have e : (prodR [R]).filter (hitR g n acc) = (R.filter fun x => hitR g n acc [x]).map fun x => [x] := flat_one R
      rw [e, List.length_map]
      exact cnt_last g n acc nd hu
    | cons R2 RS =>
      have ih2 := ih (fun S hS => hU S (.tail _ hS)) (fun z => nomatch z)
      have e : (prodR (R :: R2 :: RS)).filter (hitR g n acc) = R.flatMap fun x => ((prodR (R2 :: RS)).filter (hitR g n (lane acc (rhash x)))).map fun xs => x :: xs := by
        show (R.flatMap fun x => (prodR (R2 :: RS)).map fun xs => x :: xs).filter _ = _
        rw [List.filter_flatMap]
        congr 1
        funext x
        rw [List.filter_map]
        rfl
      rw [e]
      exact flat_le fun x _ => by
        rw [List.length_map]
        exact ih2 _
/-- rows of a script, as they can be -/
def rws (sc : List Wd) : List Row := (List.range (sc.length + 1)).flatMap fun p : Nat => if (flg sc p).1 = true then (List.range 5).map fun l : Nat => ⟨(p : Int), (flg sc p).1, (flg sc p).2, (l : Int)⟩ else [⟨(p : Int), (flg sc p).1, (flg sc p).2, restL (flg sc p).2⟩]
theorem rws_mem {sc : List Wd} {x : Row} (h : RI sc x) : x ∈ rws sc := by
  obtain ⟨p, hp, hle, ho, hr, h0, h4, hf⟩ := h
  refine List.mem_flatMap.mpr ⟨p, List.mem_range.mpr (by omega), ?_⟩
  obtain ⟨xp, xo, xr, xl⟩ := x
  dsimp only at *
  subst hp ho hr
  by_cases c : (flg sc p).1 = true
  · rw [if_pos c]
    exact List.mem_map.mpr ⟨xl.toNat, List.mem_range.mpr (by omega), by rw [Int.toNat_of_nonneg h0]⟩
  · rw [if_neg c, hf (by simpa using c)]
    exact .head _
theorem rws_len (sc : List Wd) : (rws sc).length ≤ 5 * sc.length + 1 := by
  unfold rws
  rw [show List.range (sc.length + 1) = 0 :: (List.range sc.length).map Nat.succ from List.range_succ_eq_map, List.flatMap_cons, List.length_append]
  have a : (if (flg sc 0).1 = true then (List.range 5).map fun l : Nat => (⟨((0 : Nat) : Int), (flg sc 0).1, (flg sc 0).2, (l : Int)⟩ : Row) else [⟨((0 : Nat) : Int), (flg sc 0).1, (flg sc 0).2, restL (flg sc 0).2⟩]).length = 1 := by
    have : (flg sc 0).1 = false := rfl
    rw [if_neg (by rw [this]; decide)]
    rfl
  have b := flat_le (l := (List.range sc.length).map Nat.succ) (f := fun p : Nat => if (flg sc p).1 = true then (List.range 5).map fun l : Nat => (⟨(p : Int), (flg sc p).1, (flg sc p).2, (l : Int)⟩ : Row) else [⟨(p : Int), (flg sc p).1, (flg sc p).2, restL (flg sc p).2⟩]) (b := 5) fun p _ => by
    split
    · rw [List.length_map, List.length_range]
      exact Nat.le_refl _
    · exact Nat.le_of_lt_succ (by show 1 < 6; omega)
  rw [List.length_map, List.length_range] at b
  omega
theorem prodR_mem : ∀ {ss : List (List Wd)} {xs : List Row}, SI ss xs → xs ∈ prodR (ss.map rws)
  | _, _, .nil => .head _
  | _, _, .cons h q => List.mem_flatMap.mpr ⟨_, rws_mem h, List.mem_map.mpr ⟨_, prodR_mem q, rfl⟩⟩
end C81

set_option Elab.async false
set_option maxRecDepth 100000
set_option maxHeartbeats 4000000
set_option linter.all false
/-! Any data, apart from two objects. -/
namespace My
open PySem PySem.Spec PyProof.Rows L2
theorem Ax.ne {m : Addr} {H : Hp} {v : V} {d : PyData} {a : Addr} (h : Ax m H v d) (e : v = .ref a) : a ≠ m := by
  cases h with
  | non => cases e
  | bl b => cases e
  | int i => cases e
  | str x => cases e
  | lst n _ _ => cases e; exact n
  | tup n _ _ => cases e; exact n
  | dic n _ => cases e; exact n
mutual
theorem Ax.but2 {m c : Addr} {H H' : Hp} (b : But2 m c H H') : ∀ {v : V} {d : PyData}, Ax m H v d → Ax c H v d → Ax m H' v d
  | _, _, .non, _ => .non
  | _, _, .bl k, _ => .bl k
  | _, _, .int i, _ => .int i
  | _, _, .str x, _ => .str x
  | _, _, .lst n h q, .lst n' h' q' => by
    rw [h] at h'
    cases h'
    exact .lst n (b _ _ h n n') (AxAll.but2 b q q')
  | _, _, .tup n h q, .tup n' h' q' => by
    rw [h] at h'
    cases h'
    exact .tup n (b _ _ h n n') (AxAll.but2 b q q')
  | _, _, .dic n h, q => .dic n (b _ _ h n (Ax.ne q rfl))
theorem AxAll.but2 {m c : Addr} {H H' : Hp} (b : But2 m c H H') : ∀ {vs : List V} {ds : List PyData}, AxAll m H vs ds → AxAll c H vs ds → AxAll m H' vs ds
  | _, _, .nil, _ => .nil
  | _, _, .cons h q, .cons h' q' => .cons (Ax.but2 b h h') (AxAll.but2 b q q')
end
mutual
theorem Ax.fresh {m c : Addr} {H : Hp} (hc : H c = none) : ∀ {v : V} {d : PyData}, Ax m H v d → Ax c H v d
  | _, _, .non => .non
  | _, _, .bl k => .bl k
  | _, _, .int i => .int i
  | _, _, .str x => .str x
  | _, _, .lst n h q => .lst (ne_of_none h hc) h (AxAll.fresh hc q)
  | _, _, .tup n h q => .tup (ne_of_none h hc) h (AxAll.fresh hc q)
  | _, _, .dic n h => .dic (ne_of_none h hc) h
theorem AxAll.fresh {m c : Addr} {H : Hp} (hc : H c = none) : ∀ {vs : List V} {ds : List PyData}, AxAll m H vs ds → AxAll c H vs ds
  | _, _, .nil => .nil
  | _, _, .cons h q => .cons (Ax.fresh hc h) (AxAll.fresh hc q)
end
end My

set_option Elab.async false
set_option maxRecDepth 100000
set_option maxHeartbeats 4000000
set_option linter.all false
namespace C81
open PySem L2 My M78
abbrev sOdd : Stmt := top 52
abbrev nOdd : List Str := ["_law_state", "_law_some"]
theorem scOdd : FnScope nOdd ["_law_state"] (defScope sOdd) := ⟨rfl, rfl, rfl, by decide +kernel, rfl, by decide +kernel, by decide +kernel⟩
def rw0D : List PyData := [.int 0, .bool false, .bool false, .int 0]
/-- the odd objects -/
def oddL : List PyData := [.none, .bool true, .bool false, .int 0, .int 1, .int (-1), .int (2 ^ 40), .str "", .str "begin", .str "reads", .str "BEGIN", .str "write ", .list [], .tuple [], .dict (dkD []), .dict (dkD [("begin", 1)])] ++
  [.tuple [.str "begin"], .list [.list [.str "read"]], .tuple [.none], .list [.int 0], .tuple [.bool true], .tuple [.tuple rw0D], .list [.list rw0D]]
section
variable {P : Program} {w : World} {K : PySem.W.Frag} {mg : Str → Option Value} {base : Heap}
def spOddX : Sp := fun vs H Q _ => ∃ (st c : Addr) (ns : List Int), vs = [.ref st] ∧ Drw H st c ns ∧ ns.length ≤ 63 ∧ ∀ (x : V) (d : PyData) (H' : Hp), d ∈ oddL → (∀ z o, H z = some o → Ax z H' x d) → Drw H' st c ns → But st H H' → Q x H'
theorem pr_oddX (D : Df K mg "_law_odd" sOdd ["_law_state"]) (T : Tx mg) (PT : Pr P w K mg base 2 "_law_take" ["_law_state", "_law_many"] spTake) : Pr P w K mg base 3 "_law_odd" ["_law_state"] spOddX := by
  refine D.pr scOdd (fun vs H Q E h => ?_) (fun f cdv A outer s H vs Q E hr h => ?_)
  · obtain ⟨st, c, ns, rfl, _⟩ := h
    rfl
  · obtain ⟨st, c, ns, rfl, dr, hns, k⟩ := h
    have nd := scOdd.nd
    refine ⟨_, (pss_cons (ps_asg (pe_lst (pa_cons pe_non (pa_cons pe_bl (pa_cons pe_bl (pa_cons pe_int (pa_cons pe_int (pa_cons (pe_un un_neg pe_int) (pa_cons (pe_op op_pow pe_int pe_int) (pa_cons pe_str (pa_cons pe_str (pa_cons pe_str (pa_cons pe_str (pa_cons pe_str (pa_cons (pe_lst pa_nil) (pa_cons (pe_tup pa_nil) (pa_cons pe_dnewK (pa_cons (pe_disp (pps_cons pe_str pe_int pps_nil) (by rfl) (by rfl) (fun z => by cases z) (by decide)) pa_nil))))))))))))))))) (pg_name (i := 1) nd rfl (Or.inl rfl)))
      (pss_cons (ps_asg (pe_op op_cat (pv 1) (pe_lst (pa_cons (pe_tup (pa_cons pe_str pa_nil)) (pa_cons (pe_lst (pa_cons (pe_lst (pa_cons pe_str pa_nil)) pa_nil)) (pa_cons (pe_tup (pa_cons pe_non pa_nil)) (pa_cons (pe_lst (pa_cons pe_int pa_nil)) (pa_cons (pe_tup (pa_cons pe_bl pa_nil)) (pa_cons (pe_tup (pa_cons (pe_tup (pa_cons pe_int (pa_cons pe_bl (pa_cons pe_bl (pa_cons pe_int pa_nil))))) pa_nil)) (pa_cons (pe_lst (pa_cons (pe_lst (pa_cons pe_int (pa_cons pe_bl (pa_cons pe_bl (pa_cons pe_int pa_nil))))) pa_nil)) pa_nil))))))))) (pg_name (i := 1) nd rfl (Or.inl rfl)))
      (pss_one (ps_ret (pe_ix ix_list (pv 1) (pe_callP PT hr (by rfl) (pa_cons (pv 0) (pa_cons (pe_callB call_len (by rfl) T.len PySem.boot_len (pa_cons (pv 1) pa_nil)) pa_nil))) (fun _ _ => rfl)))))), ?_⟩
    refine ⟨_, rfl, _, _, rfl, rfl, ⟨by decide, by decide, by decide⟩, (by show 0 ≤ sizeLine; decide), fun a1 na1 => ?_⟩
    generalize ha1 : upd H a1 _ = G1
    have sa1 : Same H G1 := ha1 ▸ Same.new na1
    have ea1 : G1 a1 = some (.lst []) := ha1 ▸ upd_same
    clear ha1
    refine ⟨(by show 0 ≤ sizeLine; decide), fun a2 na2 => ?_⟩
    generalize ha2 : upd G1 a2 _ = G2
    have sa2 : Same G1 G2 := ha2 ▸ Same.new na2
    have ea2 : G2 a2 = some (.tup []) := ha2 ▸ upd_same
    clear ha2
    refine fun a3 na3 => ?_
    generalize ha3 : upd G2 a3 _ = G3
    have sa3 : Same G2 G3 := ha3 ▸ Same.new na3
    have ea3 : G3 a3 = some (.dK (dkV [])) := ha3 ▸ upd_same
    clear ha3
    refine fun a4 na4 => ?_
    refine ⟨upd_same, dkV [("begin", 1)], rfl, (by show 1 ≤ 15; decide), ?_⟩
    have sa4 : Same G3 (upd (upd G3 a4 (.dK [])) a4 (.dK (mergeK [] (dkV [("begin", 1)])))) := fun b u e => by
      rw [upd_ne (ne_of_none e na4), upd_ne (ne_of_none e na4)]
      exact e
    have ea4 : upd (upd G3 a4 (.dK [])) a4 (.dK (mergeK [] (dkV [("begin", 1)]))) a4 = some (.dK (dkV [("begin", 1)])) := upd_same
    generalize upd (upd G3 a4 (.dK [])) a4 (.dK (mergeK [] (dkV [("begin", 1)]))) = G4 at sa4 ea4 ⊢
    refine ⟨(by show 16 ≤ sizeLine; decide), fun L1 nL1 => ?_⟩
    generalize hL1 : upd G4 L1 _ = G5
    have sL1 : Same G4 G5 := hL1 ▸ Same.new nL1
    have eL1 : G5 L1 = some (.lst [.non, .bl true, .bl false, .int 0, .int 1, .int (-1), .int (2 ^ (40 : Int).toNat), .str "", .str "begin", .str "reads", .str "BEGIN", .str "write ", .ref a1, .ref a2, .ref a3, .ref a4]) := hL1 ▸ upd_same
    clear hL1
    refine ⟨_, rfl, (by show 1 ≤ sizeLine; decide), fun b1 nb1 => ?_⟩
    generalize hb1 : upd G5 b1 _ = G6
    have sb1 : Same G5 G6 := hb1 ▸ Same.new nb1
    have eb1 : G6 b1 = some (.tup [.str "begin"]) := hb1 ▸ upd_same
    clear hb1
    refine ⟨(by show 1 ≤ sizeLine; decide), fun b2 nb2 => ?_⟩
    generalize hb2 : upd G6 b2 _ = G7
    have sb2 : Same G6 G7 := hb2 ▸ Same.new nb2
    have eb2 : G7 b2 = some (.lst [.str "read"]) := hb2 ▸ upd_same
    clear hb2
    refine ⟨(by show 1 ≤ sizeLine; decide), fun b3 nb3 => ?_⟩
    generalize hb3 : upd G7 b3 _ = G8
    have sb3 : Same G7 G8 := hb3 ▸ Same.new nb3
    have eb3 : G8 b3 = some (.lst [.ref b2]) := hb3 ▸ upd_same
    clear hb3
    refine ⟨(by show 1 ≤ sizeLine; decide), fun b4 nb4 => ?_⟩
    generalize hb4 : upd G8 b4 _ = G9
    have sb4 : Same G8 G9 := hb4 ▸ Same.new nb4
    have eb4 : G9 b4 = some (.tup [.non]) := hb4 ▸ upd_same
    clear hb4
    refine ⟨(by show 1 ≤ sizeLine; decide), fun b5 nb5 => ?_⟩
    generalize hb5 : upd G9 b5 _ = G10
    have sb5 : Same G9 G10 := hb5 ▸ Same.new nb5
    have eb5 : G10 b5 = some (.lst [.int 0]) := hb5 ▸ upd_same
    clear hb5
    refine ⟨(by show 1 ≤ sizeLine; decide), fun b6 nb6 => ?_⟩
    generalize hb6 : upd G10 b6 _ = G11
    have sb6 : Same G10 G11 := hb6 ▸ Same.new nb6
    have eb6 : G11 b6 = some (.tup [.bl true]) := hb6 ▸ upd_same
    clear hb6
    refine ⟨(by show 4 ≤ sizeLine; decide), fun b7 nb7 => ?_⟩
    generalize hb7 : upd G11 b7 _ = G12
    have sb7 : Same G11 G12 := hb7 ▸ Same.new nb7
    have eb7 : G12 b7 = some (.tup [.int 0, .bl false, .bl false, .int 0]) := hb7 ▸ upd_same
    clear hb7
    refine ⟨(by show 1 ≤ sizeLine; decide), fun b8 nb8 => ?_⟩
    generalize hb8 : upd G12 b8 _ = G13
    have sb8 : Same G12 G13 := hb8 ▸ Same.new nb8
    have eb8 : G13 b8 = some (.tup [.ref b7]) := hb8 ▸ upd_same
    clear hb8
    refine ⟨(by show 4 ≤ sizeLine; decide), fun b9 nb9 => ?_⟩
    generalize hb9 : upd G13 b9 _ = G14
    have sb9 : Same G13 G14 := hb9 ▸ Same.new nb9
    have eb9 : G14 b9 = some (.lst [.int 0, .bl false, .bl false, .int 0]) := hb9 ▸ upd_same
    clear hb9
    refine ⟨(by show 1 ≤ sizeLine; decide), fun bA nbA => ?_⟩
    generalize hbA : upd G14 bA _ = G15
    have sbA : Same G14 G15 := hbA ▸ Same.new nbA
    have ebA : G15 bA = some (.lst [.ref b9]) := hbA ▸ upd_same
    clear hbA
    refine ⟨(by show 7 ≤ sizeLine; decide), fun L2 nL2 => ?_⟩
    generalize hL2 : upd G15 L2 _ = G16
    have sL2 : Same G15 G16 := hL2 ▸ Same.new nL2
    have eL2 : G16 L2 = some (.lst [.ref b1, .ref b3, .ref b4, .ref b5, .ref b6, .ref b8, .ref bA]) := hL2 ▸ upd_same
    clear hL2
    have q15 : Same G15 G16 := sL2
    have q14 : Same G14 G16 := Same.tr sbA q15
    have q13 : Same G13 G16 := Same.tr sb9 q14
    have q12 : Same G12 G16 := Same.tr sb8 q13
    have q11 : Same G11 G16 := Same.tr sb7 q12
    have q10 : Same G10 G16 := Same.tr sb6 q11
    have q9 : Same G9 G16 := Same.tr sb5 q10
    have q8 : Same G8 G16 := Same.tr sb4 q9
    have q7 : Same G7 G16 := Same.tr sb3 q8
    have q6 : Same G6 G16 := Same.tr sb2 q7
    have q5 : Same G5 G16 := Same.tr sb1 q6
    have q4 : Same G4 G16 := Same.tr sL1 q5
    have q3 : Same G3 G16 := Same.tr sa4 q4
    have q2 : Same G2 G16 := Same.tr sa3 q3
    have q1 : Same G1 G16 := Same.tr sa2 q2
    have q0 : Same H G16 := Same.tr sa1 q1
    have z1 : Same H G1 := sa1
    have z2 : Same H G2 := Same.tr z1 sa2
    have z3 : Same H G3 := Same.tr z2 sa3
    have z4 : Same H G4 := Same.tr z3 sa4
    have z5 : Same H G5 := Same.tr z4 sL1
    have z6 : Same H G6 := Same.tr z5 sb1
    have z7 : Same H G7 := Same.tr z6 sb2
    have z8 : Same H G8 := Same.tr z7 sb3
    have z9 : Same H G9 := Same.tr z8 sb4
    have z10 : Same H G10 := Same.tr z9 sb5
    have z11 : Same H G11 := Same.tr z10 sb6
    have z12 : Same H G12 := Same.tr z11 sb7
    have z13 : Same H G13 := Same.tr z12 sb8
    have z14 : Same H G14 := Same.tr z13 sb9
    have z15 : Same H G15 := Same.tr z14 sbA
    have all : ∀ zz oo, H zz = some oo → AxAll zz G16 ([.non, .bl true, .bl false, .int 0, .int 1, .int (-1), .int (2 ^ (40 : Int).toNat), .str "", .str "begin", .str "reads", .str "BEGIN", .str "write ", .ref a1, .ref a2, .ref a3, .ref a4] ++ [.ref b1, .ref b3, .ref b4, .ref b5, .ref b6, .ref b8, .ref bA]) oddL := fun zz oo hzz => by
      have nst0 : ∀ b, H b = none → b ≠ zz := fun b h => Ne.symm (ne_of_none hzz h)
      have nst1 : ∀ b, G1 b = none → b ≠ zz := fun b h => Ne.symm (ne_of_none hzz (Same.free z1 h))
      have nst2 : ∀ b, G2 b = none → b ≠ zz := fun b h => Ne.symm (ne_of_none hzz (Same.free z2 h))
      have nst3 : ∀ b, G3 b = none → b ≠ zz := fun b h => Ne.symm (ne_of_none hzz (Same.free z3 h))
      have nst4 : ∀ b, G4 b = none → b ≠ zz := fun b h => Ne.symm (ne_of_none hzz (Same.free z4 h))
      have nst5 : ∀ b, G5 b = none → b ≠ zz := fun b h => Ne.symm (ne_of_none hzz (Same.free z5 h))
      have nst6 : ∀ b, G6 b = none → b ≠ zz := fun b h => Ne.symm (ne_of_none hzz (Same.free z6 h))
      have nst7 : ∀ b, G7 b = none → b ≠ zz := fun b h => Ne.symm (ne_of_none hzz (Same.free z7 h))
      have nst8 : ∀ b, G8 b = none → b ≠ zz := fun b h => Ne.symm (ne_of_none hzz (Same.free z8 h))
      have nst9 : ∀ b, G9 b = none → b ≠ zz := fun b h => Ne.symm (ne_of_none hzz (Same.free z9 h))
      have nst10 : ∀ b, G10 b = none → b ≠ zz := fun b h => Ne.symm (ne_of_none hzz (Same.free z10 h))
      have nst11 : ∀ b, G11 b = none → b ≠ zz := fun b h => Ne.symm (ne_of_none hzz (Same.free z11 h))
      have nst12 : ∀ b, G12 b = none → b ≠ zz := fun b h => Ne.symm (ne_of_none hzz (Same.free z12 h))
      have nst13 : ∀ b, G13 b = none → b ≠ zz := fun b h => Ne.symm (ne_of_none hzz (Same.free z13 h))
      have nst14 : ∀ b, G14 b = none → b ≠ zz := fun b h => Ne.symm (ne_of_none hzz (Same.free z14 h))
      have nst15 : ∀ b, G15 b = none → b ≠ zz := fun b h => Ne.symm (ne_of_none hzz (Same.free z15 h))
      exact .cons (.non) (.cons (.bl _) (.cons (.bl _) (.cons (.int _) (.cons (.int _) (.cons (.int _) (.cons (.int _) (.cons (.str _) (.cons (.str _) (.cons (.str _) (.cons (.str _) (.cons (.str _) (.cons (.lst (nst0 _ na1) (q1 _ _ ea1) (.nil)) (.cons (.tup (nst1 _ na2) (q2 _ _ ea2) (.nil)) (.cons (.dic (kvs := []) (nst2 _ na3) (q3 _ _ ea3)) (.cons (.dic (kvs := [("begin", 1)]) (nst3 _ na4) (q4 _ _ ea4)) (.cons (.tup (nst5 _ nb1) (q6 _ _ eb1) (.cons (.str _) .nil)) (.cons (.lst (nst7 _ nb3) (q8 _ _ eb3) (.cons (.lst (nst6 _ nb2) (q7 _ _ eb2) (.cons (.str _) .nil)) .nil)) (.cons (.tup (nst8 _ nb4) (q9 _ _ eb4) (.cons .non .nil)) (.cons (.lst (nst9 _ nb5) (q10 _ _ eb5) (.cons (.int _) .nil)) (.cons (.tup (nst10 _ nb6) (q11 _ _ eb6) (.cons (.bl _) .nil)) (.cons (.tup (nst12 _ nb8) (q13 _ _ eb8) (.cons (.tup (nst11 _ nb7) (q12 _ _ eb7) (.cons (.int _) (.cons (.bl _) (.cons (.bl _) (.cons (.int _) .nil))))) .nil)) (.cons (.lst (nst14 _ nbA) (q15 _ _ ebA) (.cons (.lst (nst13 _ nb9) (q14 _ _ eb9) (.cons (.int _) (.cons (.bl _) (.cons (.bl _) (.cons (.int _) .nil))))) .nil)) (.nil)))))))))))))))))))))))
    refine ⟨L1, L2, _, _, rfl, rfl, (q5 _ _ eL1), eL2, (by show 23 ≤ sizeLine; decide), fun C nC => ?_⟩
    have sC := same_new (o := .lst ([.non, .bl true, .bl false, .int 0, .int 1, .int (-1), .int (2 ^ (40 : Int).toNat), .str "", .str "begin", .str "reads", .str "BEGIN", .str "write ", .ref a1, .ref a2, .ref a3, .ref a4] ++ [.ref b1, .ref b3, .ref b4, .ref b5, .ref b6, .ref b8, .ref bA])) nC
    have eC := upd_same (H := G16) (a := C) (o := .lst ([.non, .bl true, .bl false, .int 0, .int 1, .int (-1), .int (2 ^ (40 : Int).toNat), .str "", .str "begin", .str "reads", .str "BEGIN", .str "write ", .ref a1, .ref a2, .ref a3, .ref a4] ++ [.ref b1, .ref b3, .ref b4, .ref b5, .ref b6, .ref b8, .ref bA]))
    generalize upd G16 C (.lst ([.non, .bl true, .bl false, .int 0, .int 1, .int (-1), .int (2 ^ (40 : Int).toNat), .str "", .str "begin", .str "reads", .str "BEGIN", .str "write ", .ref a1, .ref a2, .ref a3, .ref a4] ++ [.ref b1, .ref b3, .ref b4, .ref b5, .ref b6, .ref b8, .ref bA])) = G at sC eC ⊢
    have s0 := Same.tr q0 sC
    have nCs : C ≠ st := dr.nst (Same.free q0 nC)
    refine ⟨_, rfl, _, rfl, _, rfl, _, _, rfl, (Or.inl ⟨_, SqL.of eC, rfl⟩), st, c, ns, 23, rfl, dr.same s0, hns, (by decide), (by decide), fun i G' i0 i1 dr' bt => ?_⟩
    obtain ⟨j, rfl⟩ := Int.eq_ofNat_of_zero_le i0
    have hj : j < 23 := by omega
    obtain ⟨x, hx⟩ : ∃ x, ([.non, .bl true, .bl false, .int 0, .int 1, .int (-1), .int (2 ^ (40 : Int).toNat), .str "", .str "begin", .str "reads", .str "BEGIN", .str "write ", .ref a1, .ref a2, .ref a3, .ref a4] ++ [.ref b1, .ref b3, .ref b4, .ref b5, .ref b6, .ref b8, .ref bA] : List V)[j]? = some x := ⟨_, List.getElem?_eq_getElem hj⟩
    obtain ⟨o0, hst0⟩ := dr.at
    have aS := (all st o0 hst0).mono (Same.but (m := st) sC)
    obtain ⟨d, hd, ad⟩ := aS.get hx
    refine ⟨C, _, _, x, rfl, rfl, SqL.of (bt _ _ eC nCs), atI_nat hx, k x d G' (List.mem_of_getElem? hd) (fun zz oo hzz => ?_) dr' ((Same.but s0).trans bt)⟩
    obtain ⟨d', hd', ad'⟩ := ((all zz oo hzz).mono (Same.but (m := zz) sC)).get hx
    obtain rfl : d' = d := by
      rw [hd] at hd'
      cases hd'
      rfl
    exact ad'.but2 (But2.ofM bt).swap ad
end
end C81

set_option Elab.async false
set_option maxRecDepth 100000
set_option maxHeartbeats 4000000
set_option linter.all false
namespace C81
open PySem L2 My M78
abbrev sMix : Stmt := top 39
abbrev nMix : List Str := ["_law_state", "_law_things", "_law_left_here", "_law_found"]
theorem scMix : FnScope nMix ["_law_state", "_law_things"] (defScope sMix) := ⟨rfl, rfl, rfl, by decide +kernel, rfl, by decide +kernel, by decide +kernel⟩
theorem waitL_nodup (ss : List (List Wd)) (xs : List Row) : ∀ n, (waitL ss xs n).Nodup
  | 0 => List.nodup_nil
  | n + 1 => by
    have ih := waitL_nodup ss xs n
    unfold waitL
    rw [List.nodup_append]
    refine ⟨ih, ?_, fun a ha b hb => ?_⟩
    · split
      · split
        · exact List.nodup_cons.mpr ⟨List.not_mem_nil, List.nodup_nil⟩
        · exact List.nodup_nil
      · exact List.nodup_nil
    · obtain ⟨_, _, h, _⟩ := waitL_mem ha
      have : b = n := by
        split at hb
        · split at hb
          · exact List.mem_singleton.mp hb
          · cases hb
        · cases hb
      omega
theorem perm_pop {α : Type} : ∀ {l : List α} {i : Nat} {x : α}, l[i]? = some x → (x :: l.eraseIdx i).Perm l
  | [], _, _, h => by simp at h
  | a :: r, 0, x, h => by
    simp at h
    subst h
    exact List.Perm.refl _
  | a :: r, i + 1, x, h => by
    have ih := perm_pop (l := r) (i := i) (x := x) (by simpa using h)
    show (x :: a :: r.eraseIdx i).Perm (a :: r)
    exact (List.Perm.swap a x _).trans (ih.cons a)
theorem len_pop {α : Type} {l : List α} {i : Nat} {x : α} (h : l[i]? = some x) : (l.eraseIdx i).length + 1 = l.length := (perm_pop h).length_eq
section
variable {P : Program} {w : World} {K : PySem.W.Frag} {mg : Str → Option Value} {base : Heap}

/-- things in a drawn order -/
def spMix : Sp := fun vs H Q _ => ∃ (st c L : Addr) (ns : List Int) (us : List V), vs = [.ref st, .ref L] ∧ Drw H st c ns ∧ ns.length ≤ 63 ∧ H L = some (.lst us) ∧ us.length ≤ 70000 ∧
  ∀ (ys : List V) (q : Addr) (H' : Hp), ys.Perm us → H q = none → H' q = some (.lst ys) → Drw H' st c ns → But st H H' → Q (.ref q) H'
theorem pr_mix (D' : Df K mg "_law_mix" sMix ["_law_state", "_law_things"]) (T : Ty mg) (PT : Pr P w K mg base 2 "_law_take" ["_law_state", "_law_many"] spTake) : Pr P w K mg base 3 "_law_mix" ["_law_state", "_law_things"] spMix := by
  refine D'.pr scMix (fun vs H Q E h => ?_) (fun f cdv A outer s H vs Q E hr h => ?_)
  · obtain ⟨st, c, L, ns, us, rfl, _⟩ := h
    rfl
  · obtain ⟨st, c, L, ns, us, rfl, dr, hns, hL, hus, k⟩ := h
    have nd := scMix.nd
    refine ⟨_, (pss_cons (ps_par (by rfl) nd (i := 2) (j := 3) rfl rfl (by decide) rfl rfl (pa_cons (pe_callTy call_list_of (by rfl) T.list (by decide +kernel) (pa_cons (pv 1) pa_nil)) (pa_cons (pe_lst pa_nil) pa_nil)) (by rfl))
      (pss_cons (ps_while PassesOwn.never (pt_cmpR op_gt (pe_callB call_len (by rfl) T.len PySem.boot_len (pa_cons (pv 2) pa_nil)) pe_int (nomark _))
        (pss_one (ps_expr (pe_bm PySem.F.plainAttrs_list PySem.F.slot_list_append PySem.F.type_list_append mt_append (pv 3) (pa_cons (pe_bm PySem.F.plainAttrs_list PySem.F.slot_list_pop PySem.F.type_list_pop mt_popAt (pv 2) (pa_cons (pe_callP PT hr (by rfl) (pa_cons (pv 0) (pa_cons (pe_callB call_len (by rfl) T.len PySem.boot_len (pa_cons (pv 2) pa_nil)) pa_nil))) pa_nil)) pa_nil)))))
      (pss_one (ps_ret (pv 3))))), ?_⟩
    refine ⟨_, rfl, ?_⟩
    dsimp only [tNil]
    refine ⟨_, _, rfl, .inl (SqL.of hL), fun A nA => ?_⟩
    generalize hA : upd H A _ = H1
    have s1 : Same H H1 := hA ▸ Same.new nA
    have eA : H1 A = some (.lst us) := hA ▸ upd_same
    clear hA
    refine ⟨(by show 0 ≤ sizeLine; decide), fun F nF => ?_⟩
    generalize hF : upd H1 F _ = H2
    have sF : Same H1 H2 := hF ▸ Same.new nF
    have eF : H2 F = some (.lst []) := hF ▸ upd_same
    clear hF
    refine ⟨_, _, rfl, ?_⟩
    have s2 := Same.tr s1 sF
    have d2 := dr.same s2
    obtain ⟨o0, hst0⟩ := dr.at
    have nAs : A ≠ st := Ne.symm (ne_of_none hst0 nA)
    have nFs : F ≠ st := Ne.symm (ne_of_none (s1 _ _ hst0) nF)
    have nAF : A ≠ F := ne_of_none eA nF
    have nF0 : H F = none := Same.free s1 nF
    refine ⟨fun m σ H3 => ∃ (ls ys : List V), m = ls.length ∧ σ = [some (.ref st), some (.ref L), some (.ref A), some (.ref F)] ∧ H3 A = some (.lst ls) ∧ H3 F = some (.lst ys) ∧ (ys ++ ls).Perm us ∧ Drw H3 st c ns ∧ But st H H3, ?_, ?_⟩
    · exact ⟨_, us, [], rfl, rfl, sF _ _ eA, eF, List.Perm.refl _, d2, Same.but s2⟩
    · rintro m σ H3 ⟨ls, ys, rfl, rfl, hA3, hF3, hp, d3, b3⟩
      have hlen := hp.length_eq
      rw [List.length_append] at hlen
      refine ⟨_, rfl, _, _, rfl, .inl ⟨_, SqL.of hA3, rfl⟩, _, _, rfl, rfl, _, rfl, ?_⟩
      cases ls with
      | nil =>
        refine iteF ?_
        rw [List.append_nil] at hp
        exact ⟨_, rfl, k ys F H3 hp nF0 hF3 d3 b3⟩
      | cons l0 lr =>
        rw [decide_eq_true (show (((l0 :: lr).length : Nat) : Int) > 0 by rw [List.length_cons]; omega)]
        refine iteT ?_
        refine ⟨fun σ' H' => ∃ (ls ys : List V), ls.length < (l0 :: lr).length ∧ σ' = [some (.ref st), some (.ref L), some (.ref A), some (.ref F)] ∧ H' A = some (.lst ls) ∧ H' F = some (.lst ys) ∧ (ys ++ ls).Perm us ∧ Drw H' st c ns ∧ But st H H', ?_, ?_⟩
        · rintro σ' H' ⟨ls, ys, hlt, r⟩
          exact ⟨_, hlt, ls, ys, rfl, r⟩
        · refine ⟨_, rfl, .inl ⟨rfl, _, SqL.of hF3⟩, ?_⟩
          refine ⟨_, rfl, .inl ⟨rfl, _, SqL.of hA3⟩, ?_⟩
          refine ⟨_, rfl, _, rfl, _, _, rfl, .inl ⟨_, SqL.of hA3, rfl⟩, ?_⟩
          refine ⟨st, c, ns, _, rfl, d3, hns, (by rw [List.length_cons]; omega), (by omega), fun z H4 z0 z1 d4 b4 => ?_⟩
          have hA4 := b4 _ _ hA3 nAs
          have hF4 := b4 _ _ hF3 nFs
          have hzl : z.toNat < (l0 :: lr).length := by omega
          obtain ⟨x, hx⟩ : ∃ x, (l0 :: lr)[z.toNat]? = some x := ⟨_, List.getElem?_eq_getElem hzl⟩
          refine ⟨A, _, z, z.toNat, x, rfl, rfl, hA4, (by omega), (by omega), ?_, hx, ?_⟩
          · have h1 : ¬ z < 0 := by omega
            have h2 : z < (((l0 :: lr).length : Nat) : Int) := by omega
            unfold seqIndex?
            simp only [if_neg h1]
            rw [if_pos]
            rw [Bool.and_eq_true]
            exact ⟨decide_eq_true z0, decide_eq_true h2⟩
          have lp := len_pop hx
          refine ⟨F, _, x, rfl, rfl, (by rw [upd_ne (Ne.symm nAF)]; exact hF4), small6 (by omega), ?_⟩
          refine ⟨(l0 :: lr).eraseIdx z.toNat, ys ++ [x], by omega, rfl, by rw [upd_ne nAF, upd_same], upd_same, ?_, ?_, ?_⟩
          · refine List.Perm.trans ?_ hp
            rw [List.append_assoc]
            exact List.Perm.append_left _ (perm_pop hx)
          · obtain ⟨hc, n, v, b, h0, hs⟩ := d4
            exact ⟨by rw [upd_ne (ne_of_none dr.1 nF0), upd_ne (ne_of_none dr.1 nA)]; exact hc, n, v, b, h0, by rw [upd_ne (Ne.symm nFs), upd_ne (Ne.symm nAs)]; exact hs⟩
          · intro b u e n
            rw [upd_ne (ne_of_none e nF0), upd_ne (ne_of_none e nA)]
            exact b4 _ _ (b3 _ _ e n) n
end
end C81

set_option Elab.async false
set_option maxRecDepth 100000
set_option maxHeartbeats 4000000
set_option linter.all false
namespace C81
open PySem L2 My M78

/-- nested at most n deep -/
inductive LevX : Nat → PyData → Prop
  | leaf (n : Nat) {d : PyData} : isLT d = false → LevX n d
  | seq {n : Nat} {d : PyData} {ds : List PyData} : Sq2 d ds → ds.length ≤ 5000000 → (∀ x, x ∈ ds → LevX n x) → LevX (n + 1) d
theorem sq2_lt {d : PyData} {ds : List PyData} (s : Sq2 d ds) : isLT d = true := by rcases s with rfl | rfl <;> rfl
theorem sq2_fun {d : PyData} {ds es : List PyData} (s : Sq2 d ds) (t : Sq2 d es) : es = ds := by
  rcases s with rfl | rfl <;> rcases t with t | t <;> cases t <;> rfl
theorem levx_sq {n : Nat} {d : PyData} {ds : List PyData} (h : LevX n d) (s : Sq2 d ds) : ∃ n', n = n' + 1 ∧ ds.length ≤ 5000000 ∧ ∀ x, x ∈ ds → LevX n' x := by
  cases h with
  | leaf _ l =>
    rw [sq2_lt s] at l
    cases l
  | seq s' a b =>
    rw [sq2_fun s s'] at a b
    exact ⟨_, rfl, a, b⟩
theorem lt2_is (d : PyData) : lt2 d = isLT d := by cases d <;> rfl
theorem sq_fun {H : Hp} {a : Addr} {us vs : List V} (h : Sq H a us) (q : Sq H a vs) : vs = us := by
  rcases h with h | h <;> rcases q with q | q <;> rw [h] at q <;> cases q <;> rfl
section
variable {P : Program} {w : World} {K : PySem.W.Frag} {mg : Str → Option Value} {base : Heap}

def spHandedX (n : Nat) : Sp := fun vs H Q _ => ∃ (st c : Addr) (ns : List Int) (x : V) (d : PyData), vs = [.ref st, x] ∧ Drw H st c ns ∧ ns.length ≤ 63 ∧ Ax st H x d ∧ LevX n d ∧
  ∀ (y : V) (d' : PyData) (H' : Hp), Hnd d d' → (∀ z o, H z = some o → Ax z H x d → Ax z H' y d') → Drw H' st c ns → But st H H' → Q y H'
def spHX : Nat → Sp
  | 0 => fun _ _ _ _ => False
  | n + 1 => spHandedX n
theorem step_handedX (D : Df K mg "_law_handed" sHanded ["_law_state", "_law_thing"]) (T : Ty mg) (PT : Pr P w K mg base 2 "_law_take" ["_law_state", "_law_many"] spTake) {n : Nat} (PH : Pr P w K mg base (n + 2) "_law_handed" ["_law_state", "_law_thing"] (spHX n)) :
    Pr P w K mg base (n + 3) "_law_handed" ["_law_state", "_law_thing"] (spHandedX n) := by
  refine D.pr scHanded (fun vs H Q E h => ?_) (fun f cdv A outer s H vs Q E hr h => ?_)
  · obtain ⟨st, c, ns, x, d, rfl, _⟩ := h
    rfl
  · obtain ⟨st, c, ns, x, d, rfl, dr, hns, ax, lv, k⟩ := h
    have nd := scHanded.nd
    have hr2 := hr.mono (show 2 ≤ n + 2 by omega)
    refine ⟨_, (pss_cons (ps_if (pt_not (pt_val (pe_callB call_isiT (by rfl) T.isinstance (by decide +kernel) (pa_cons (pv 1) (pa_cons (pe_tup (pa_cons (pe_bltn (v := .ty "list") (by rfl) T.list (by decide +kernel) rfl) (pa_cons (pe_bltn (v := .ty "tuple") (by rfl) T.tuple (by decide +kernel) rfl) pa_nil))) pa_nil)))))
        (pss_one (ps_ret (pv 1)))
        pss_nil)
      (pss_cons (ps_setLc (i := 2) (own := [("_law_part", 3)]) (g := gName 3) (tt := tYes) (by rfl) nd rfl rfl (sw_true rfl rfl rfl (by decide +kernel)) (pi_sq (pv 1))
  (blkOk_by (own := [("_law_part", 3)]) (N := nHanded) (sc := defScope sHanded) (by decide +kernel))
  (fun _ _ _ _ _ => pg_name (i := 3) nd rfl (Or.inl rfl) (Or.inr rfl)) (fun _ _ _ _ _ => pts_nil)
  (fun _ _ _ _ _ => (pe_callP PH hr (by rfl) (pa_cons (pv 0) (pa_cons (pv 3) pa_nil)))))
      (pss_one (ps_ret (pe_ix ix_list (pe_lst (pa_cons (pv 2) (pa_cons (pe_callTy call_tuple_of (by rfl) T.tuple (by decide +kernel) (pa_cons (pv 2) pa_nil)) pa_nil))) (pe_callP PT hr2 (by rfl) (pa_cons (pv 0) (pa_cons pe_int pa_nil))) (fun _ _ => rfl)))))), ?_⟩
    refine ⟨_, rfl, (by show 2 ≤ sizeLine; decide), fun tp ntp => ?_⟩
    generalize htp : upd H tp _ = H1
    have stp : Same H H1 := htp ▸ Same.new ntp
    have etp : H1 tp = some (.tup [.ty "list", .ty "tuple"]) := htp ▸ upd_same
    clear htp
    have ax1 := ax.mono (Same.but (m := st) stp)
    dsimp only [tNil]
    refine ax_isiT ax1 etp ?_
    refine ⟨_, rfl, ?_⟩
    cases hlt : isLT d
    · refine iteT ⟨_, rfl, k x d _ (.leaf (by rw [lt2_is]; exact hlt)) (fun z o _ az => az.mono (Same.but stp)) (dr.same stp) (Same.but stp)⟩
    refine iteF ?_
    obtain ⟨ds, sq⟩ := isLT_sq hlt
    obtain ⟨n', rfl, lds, lev⟩ := levx_sq lv sq
    obtain ⟨a, us, rfl, na, hsq, aus⟩ := ax_sq ax1 sq
    have lus : us.length = ds.length := aus.length
    have dr1 := dr.same stp
    refine isq (a := a) (us := us) (fun Q q => ⟨_, rfl, q⟩) hsq (fun J G W hG => fun Dl hD => ?_)
    have nD : Dl ≠ st := dr1.nst hD
    refine lc_it W (fun i H2 => But st H1 H2 ∧ Drw H2 st c ns ∧ ∃ (vs : List V) (es : List PyData), HndAll (ds.take i) es ∧ H2 Dl = some (.lst vs) ∧ AxAll Dl H2 vs es ∧ ∀ z o, H1 z = some o → AxAll z H1 us ds → AxAll z H2 vs es) ?_ ?_ ?_ ?_
    · exact ⟨(But.refl st H1).new hD, dr1.new hD, [], [], .nil, upd_same, .nil, fun _ _ _ _ => .nil⟩
    · rintro i H2 _ ⟨b2, _⟩
      exact hG _ (fun o e => b2 _ _ e na)
    · rintro i y H9 H2 hi ⟨b2, dr2, vs, es, hes, hl, aD, aZ⟩ ⟨rfl, er⟩
      obtain ⟨de, e1, ae⟩ := aus.get er
      have ld : LevX n' de := lev de (List.mem_of_getElem? e1)
      refine ⟨rfl, ?_⟩
      refine ⟨_, rfl, _, rfl, ?_⟩
      refine ⟨st, c, ns, y, de, rfl, dr2, hns, ae.mono b2, ld, fun y' d' H3 hh hz dr3 b3 => ?_⟩
      obtain ⟨o1, hst1⟩ := dr1.at
      obtain ⟨o2, hst2⟩ := dr2.at
      have aS2 := aZ _ _ hst1 aus
      have hl3 := b3 _ _ hl nD
      have lvs : vs.length = i := by
        rw [aD.length, hes.len, List.length_take]
        omega
      have aD3 : AxAll Dl H3 (vs ++ [y']) (es ++ [d']) := (aD.but2 (But2.ofM b3).swap aS2).append (.cons (hz _ _ hl ((ae.fresh hD).but2 (But2.ofM b2).swap ae)) .nil)
      have aZ3 : ∀ z o, H1 z = some o → AxAll z H1 us ds → AxAll z H3 (vs ++ [y']) (es ++ [d']) := fun z o hz1 az => by
        refine ((aZ z o hz1 az).but2 (But2.ofM b3).swap aS2).append (.cons ?_ .nil)
        obtain ⟨de', e1', az'⟩ := az.get er
        obtain rfl : de' = de := by
          rw [e1] at e1'
          cases e1'
          rfl
        have az2 := az'.but2 (But2.ofM b2).swap ae
        by_cases hzs : z = st
        · subst hzs
          exact hz _ _ hst2 az2
        · exact hz _ _ (b2 _ _ hz1 hzs) az2
      refine ⟨vs, hl3, (by rw [lvs]; exact Nat.lt_of_lt_of_le (show i < 5000000 by omega) (by decide)), ?_, ?_, vs ++ [y'], es ++ [d'], ?_, upd_same, ?_, ?_⟩
      · intro b u e nb
        rw [upd_ne (ne_of_none e hD)]
        exact b3 _ _ (b2 _ _ e nb) nb
      · obtain ⟨hc, n', v', b', h0', hs⟩ := dr3
        exact ⟨by rw [upd_ne (ne_of_none dr1.1 hD)]; exact hc, n', v', b', h0', by rw [upd_ne (Ne.symm nD)]; exact hs⟩
      · rw [take_succ' e1]
        exact hes.snoc hh
      · exact aD3.but2 (fun x u e n1 _ => by rw [upd_ne n1]; exact e) aD3
      · intro z o hz1 az
        exact (aZ3 z o hz1 az).but2 But2.upd aD3
    · rintro H2 ⟨b2, dr2, vs, es, hes, hl, aD, aZ⟩
      rw [lus, List.take_length] at hes
      have bb2 : But st H H2 := (Same.but stp).trans b2
      refine ⟨_, rfl, _, rfl, _, _, rfl, .inl ⟨SqL.of hl, fun q hq => ?_⟩⟩
      have s3 := same_new (o := .tup vs) hq
      have e3 : upd H2 q (.tup vs) q = some (.tup vs) := upd_same
      generalize upd H2 q (.tup vs) = H3 at s3 e3 ⊢
      refine ⟨(by show 2 ≤ sizeLine; decide), fun L nL => ?_⟩
      generalize hL : upd H3 L _ = H4
      have sL : Same H3 H4 := hL ▸ Same.new nL
      have eL : H4 L = some (.lst [.ref Dl, .ref q]) := hL ▸ upd_same
      clear hL
      have s4 := Same.tr s3 sL
      refine ⟨_, rfl, st, c, ns, 2, rfl, dr2.same s4, hns, (by decide), (by decide), fun j H5 hj0 hj2 dr5 b5 => ?_⟩
      have b25 : But st H2 H5 := (Same.but s4).trans b5
      have nL : L ≠ st := (dr2.same s3).nst nL
      have nq : q ≠ st := dr2.nst hq
      have bb5 := bb2.trans b25
      obtain ⟨o1, hst1⟩ := dr1.at
      have aS2 := aZ _ _ hst1 aus
      have up : ∀ z o, H z = some o → Ax z H (.ref a) d → AxAll z H5 vs es ∧ z ≠ Dl ∧ z ≠ q := fun z o hz az => by
        have hz1 := stp _ _ hz
        obtain ⟨a', us', ea, _, hsq', aus'⟩ := ax_sq (az.mono (Same.but stp)) sq
        cases ea
        rw [sq_fun hsq hsq'] at aus'
        refine ⟨(aZ z o hz1 aus').but2 (But2.ofM b25).swap aS2, ne_of_none hz1 hD, ?_⟩
        by_cases hzs : z = st
        · rw [hzs]
          exact Ne.symm nq
        · exact ne_of_none (b2 _ _ hz1 hzs) hq
      rcases (show j = 0 ∨ j = 1 by omega) with rfl | rfl
      · refine ⟨_, _, _, _, rfl, rfl, SqL.of (b5 _ _ eL nL), rfl, ?_⟩
        exact k _ (.list es) _ (.seq sq (.inl rfl) hes) (fun z o hz az => .lst (Ne.symm (up z o hz az).2.1) (b25 _ _ hl nD) (up z o hz az).1) dr5 bb5
      · refine ⟨_, _, _, _, rfl, rfl, SqL.of (b5 _ _ eL nL), rfl, ?_⟩
        exact k _ (.tuple es) _ (.seq sq (.inr rfl) hes) (fun z o hz az => .tup (Ne.symm (up z o hz az).2.2) (b5 _ _ (sL _ _ e3) nq) (up z o hz az).1) dr5 bb5
theorem pr_handedX (D : Df K mg "_law_handed" sHanded ["_law_state", "_law_thing"]) (T : Ty mg) (PT : Pr P w K mg base 2 "_law_take" ["_law_state", "_law_many"] spTake) : ∀ n, Pr P w K mg base (n + 2) "_law_handed" ["_law_state", "_law_thing"] (spHX n)
  | 0 => by
    obtain ⟨f, fd, F, b, g⟩ := D
    exact ⟨f, fd, ⟨fun _ _ _ _ h => h.elim, fun _ _ _ _ _ _ _ _ _ _ _ _ _ h => h.elim⟩, g, F.kp, b⟩
  | n + 1 => step_handedX D T PT (pr_handedX D T PT n)
end
end C81

set_option Elab.async false
set_option maxRecDepth 100000
set_option maxHeartbeats 4000000
set_option linter.all false
namespace C81
open PySem L2 My M78
abbrev sDro : Stmt := top 57
abbrev nDro : List Str := ["_law_state", "_law_scripts_here", "_law_refused_here", "_law_here", "_law_found", "_law_k", "_law_left_here", "_law_end"]
theorem scDro : FnScope nDro ["_law_state", "_law_scripts_here", "_law_refused_here"] (defScope sDro) := ⟨rfl, rfl, rfl, by decide +kernel, rfl, by decide +kernel, by decide +kernel⟩

theorem _root_.My.Drw.kt {H H' : Hp} {st c : Addr} {ns : List Int} (dr : Drw H st c ns) (b : But st H H') : KeepT H H' := fun a xs e => by
  obtain ⟨_, n, v, k, _, hs⟩ := dr
  exact b _ _ e fun z => by
    rw [z, hs] at e
    cases e
theorem _root_.My.Drw.nt {H : Hp} {st c : Addr} {ns : List Int} (dr : Drw H st c ns) : NoT H st := by
  obtain ⟨_, n, v, k, _, hs⟩ := dr
  exact .lst hs
def ordV (ks : List Nat) : List V := ks.map fun k : Nat => V.int (k : Int)
def ordD (ks : List Nat) : List PyData := ks.map fun k : Nat => .int (k : Int)
theorem shaped_ords (ks : List Nat) : SeqAt.shaped (.list (ordD ks)) = true := by
  have h1 : PyData.canLayAll0 (ordD ks) = true := by
    induction ks with
    | nil => rfl
    | cons k r ih =>
      show (PyData.canLay0 (.int (k : Int)) && PyData.canLayAll0 (ordD r)) = true
      rw [ih]
      rfl
  have h2 : PyData.depthAll (ordD ks) = 0 := by
    clear h1
    induction ks with
    | nil => rfl
    | cons k r ih =>
      show max (PyData.depth (.int (k : Int))) (PyData.depthAll (ordD r)) = 0
      rw [ih]
      rfl
  unfold SeqAt.shaped
  rw [Bool.and_eq_true_iff]
  refine ⟨?_, decide_eq_true ?_⟩
  · simpa only [PyData.canLay0] using h1
  · simp only [PyData.depth]
    rw [h2]
    decide
theorem eqv_ords_e (l : List Nat) : PyData.eqv (.list (ordD l)) (.list []) = l.isEmpty := by
  cases l <;> rfl
theorem at_ords {m : Addr} {H : Hp} : ∀ ks : List Nat, AtAll m H (ordV ks) (ordD ks)
  | [] => .nil
  | k :: r => .cons (.int _) (at_ords r)
section
variable {P : Program} {w : World} {K : PySem.W.Frag} {mg : Str → Option Value} {base : Heap}

/-- an order that is drawn -/
def spDro : Sp := fun vs H Q _ => ∃ (st c A : Addr) (ns : List Int) (ss : List (List Wd)) (b : Bool), vs = [.ref st, .ref A, .bl b] ∧ Drw H st c ns ∧ ns.length ≤ 63 ∧ Tp H (.ref A) (scD ss) ∧ Ok4 ss ∧
  ∀ (F : Addr) (ks : List Nat) (H' : Hp), H F = none → H' F = some (.lst (ordV ks)) → ks.length ≤ 17 → (∀ k ∈ ks, k < 4) → Drw H' st c ns → But st H H' → Q (.ref F) H'
theorem pr_dro (D' : Df K mg "_law_drawn_order" sDro ["_law_state", "_law_scripts_here", "_law_refused_here"]) (T : Ty mg) (TR : mg "range" = none) (PT : Pr P w K mg base 2 "_law_take" ["_law_state", "_law_many"] spTake) (PB : Pr P w K mg base 1 "_law_begun" ["_law_scripts_here"] spBegun) (PL : Pr P w K mg base 4 "_law_left" ["_law_scripts_here", "_law_here"] spLeft)
    (PAf : Pr P w K mg base 2 "_law_after" ["_law_scripts_here", "_law_here", "_law_at"] spAfter) : Pr P w K mg base 5 "_law_drawn_order" ["_law_state", "_law_scripts_here", "_law_refused_here"] spDro := by
  refine D'.pr scDro (fun vs H Q E h => ?_) (fun f cdv A' outer s H vs Q E hr h => ?_)
  · obtain ⟨st, c, A, ns, ss, b, rfl, _⟩ := h
    rfl
  · obtain ⟨st, c, A, ns, ss, b, rfl, dr, hns, tA, ok4, k⟩ := h
    have nd := scDro.nd
    have hr1 := hr.mono (show 1 ≤ 4 by decide)
    have hr2 := hr.mono (show 2 ≤ 4 by decide)
    have l4 := ok4.l4
    refine ⟨_, (pss_cons (ps_par (by rfl) nd (i := 3) (j := 4) rfl rfl (by decide) rfl rfl (pa_cons (pe_callP PB hr1 (by rfl) (pa_cons (pv 1) pa_nil)) (pa_cons (pe_lst pa_nil) pa_nil)) (by rfl))
      (pss_cons (ps_for PassesOwn.never rfl (pi_range1 rfl TR (pa_cons (pe_callP PT hr2 (by rfl) (pa_cons (pv 0) (pa_cons (pe_op op_add (pe_op op_mul pe_int (pe_callB call_len (by rfl) T.len PySem.boot_len (pa_cons (pv 1) pa_nil))) pe_int) pa_nil))) pa_nil)) (pg_name (i := 5) nd rfl (Or.inl rfl))
        (pss_cons (ps_asg (pe_callP PL hr (by rfl) (pa_cons (pv 1) (pa_cons (pv 3) pa_nil))) (pg_name (i := 6) nd rfl (Or.inl rfl)))
        (pss_one (ps_if (pt_cmpR (op_neD hr.units) (pv 6) (pe_lst pa_nil) (nomark _))
          (pss_cons (ps_expr (pe_bm PySem.F.plainAttrs_list PySem.F.slot_list_append PySem.F.type_list_append mt_append (pv 4) (pa_cons (pe_ix ix_list (pv 6) (pe_callP PT hr2 (by rfl) (pa_cons (pv 0) (pa_cons (pe_callB call_len (by rfl) T.len PySem.boot_len (pa_cons (pv 6) pa_nil)) pa_nil))) (fun _ _ => rfl)) pa_nil)))
          (pss_cons (ps_asg (pe_callP PAf hr2 (by rfl) (pa_cons (pv 1) (pa_cons (pv 3) (pa_cons (pe_ix ix_list (pv 4) (pe_un un_neg pe_int) (fun _ _ => rfl)) pa_nil)))) (pg_tup rfl (pgs_cons (pg_name (i := 3) nd rfl (Or.inl rfl)) (pgs_cons (pg_name (i := 7) nd rfl (Or.inl rfl)) pgs_nil))))
          (pss_one (ps_if (PW.pt (pw_and (pt_val (pv 7)) (pw_and1 (pt_val (pv 2)))))
            (pss_one (ps_ret (pv 4)))
            pss_nil))))
          pss_nil))))
      (pss_one (ps_ret (pv 4))))), ?_⟩
    obtain ⟨o0, hst0⟩ := dr.at
    refine ⟨_, rfl, st, A, o0, ss, hst0, rfl, tA.at dr.nt, (by omega), fun B H1 nB s1 a1 => ?_⟩
    have tB : Tp H1 (.ref B) (stD (s0 ss)) := a1.tp (isT_st _)
    refine ⟨(by show 0 ≤ sizeLine; decide), fun F nF => ?_⟩
    generalize hF : upd H1 F _ = H2
    have sF : Same H1 H2 := hF ▸ Same.new nF
    have eF : H2 F = some (.lst []) := hF ▸ upd_same
    clear hF
    refine ⟨_, _, rfl, ?_⟩
    have s2 := Same.tr s1 sF
    have nF0 : H F = none := Same.free s1 nF
    have nFst : F ≠ st := dr.nst nF0
    have d2 := dr.same s2
    have tA2 := tA.mono (.same s2)
    obtain ⟨_, ua, eA, hA2, qA⟩ := Tp.ref (ds := ss.map fun sc => .tuple (sc.map fun v => .str (wS v))) tA2
    cases eA
    have lua : ua.length = ss.length := by rw [qA.length, List.length_map]
    refine ⟨_, rfl, _, rfl, _, _, rfl, .inr ⟨_, SqT.of hA2, rfl⟩, _, _, rfl, rfl, .inl ⟨by decide, by decide⟩, _, _, rfl, rfl, ?_⟩
    refine ⟨st, c, ns, _, rfl, d2, hns, (by omega), (by omega), fun up H3 up0 up1 d3 b3 => ?_⟩
    refine ⟨_, rfl, (by omega), (by omega), ?_⟩
    have b23 : But st H H3 := (Same.but s2).trans b3
    refine for_range (lo := 0) (n := up.toNat) (fun i σ H4 => ∃ (B : Addr) (xs : List Row) (ks : List Nat) (o5 o6 o7 : Option V), σ = [some (.ref st), some (.ref A), some (.bl b), some (.ref B), some (.ref F), o5, o6, o7] ∧ But st H H4 ∧ Drw H4 st c ns ∧ Tp H4 (.ref B) (stD xs) ∧ SI ss xs ∧ H4 F = some (.lst (ordV ks)) ∧ ks.length ≤ i ∧ ∀ k ∈ ks, k < 4) ?_ ?_ ?_
    · exact ⟨B, s0 ss, [], _, _, _, rfl, b23, d3, (tB.mono (.same sF)).mono (d2.kt b3), SI.zero ss, b3 _ _ eF nFst, Nat.le_refl _, fun k h => nomatch h⟩
    · rintro i σ H4 hi ⟨B, xs, ks, o5, o6, o7, rfl, b4, d4, tB4, si, hF4, lks, ksl⟩
      have lxs : ss.length = xs.length := paired_len si
      have tA4 := tA.mono (dr.kt b4)
      obtain ⟨o4, hst4⟩ := d4.at
      refine ⟨_, rfl, _, rfl, st, A, B, ss, xs, rfl, tA4.at d4.nt, tB4.at d4.nt, lxs, (by omega), fun Lf H5 nLf s5 hLf => ?_⟩
      obtain ⟨ws, hws⟩ : ∃ ws, ws = wt ss xs := ⟨_, rfl⟩
      have hLf : H5 Lf = some (.lst (ordV ws)) := by
        rw [hws]
        exact hLf
      refine ⟨_, rfl, (by show 0 ≤ sizeLine; decide), fun N1 nN1 => ?_⟩
      generalize hN1 : upd H5 N1 _ = H6
      have sN1 : Same H5 H6 := hN1 ▸ Same.new nN1
      have eN1 : H6 N1 = some (.lst []) := hN1 ▸ upd_same
      clear hN1
      have hLf6 := sN1 _ _ hLf
      refine ⟨_, _, Dp.lst (SqL.of hLf6) (at_ords (m := Lf) _).dp, Dp.lst (SqL.of eN1) .nil, shaped_ords _, rfl, ?_⟩
      rw [eqv_ords_e]
      refine ⟨_, rfl, ?_⟩
      have s46 := Same.tr s5 sN1
      have hF6 := s46 _ _ hF4
      have d6 := d4.same s46
      have b6 := b4.tr' s46
      cases hE : ws.isEmpty
      case true =>
        refine iteF ?_
        exact ⟨B, xs, ks, _, _, _, rfl, b6, d6, tB4.mono (.same s46), si, hF6, by omega, ksl⟩
      refine iteT ?_
      have hwl : ws.length ≤ 4 := by
        have h : (wt ss xs).length ≤ xs.length := waitL_len ss xs xs.length
        rw [hws]
        omega
      have hw0 : 0 < ws.length := by
        cases ws with
        | nil => cases hE
        | cons a r => exact Nat.succ_pos _
      have lov : (ordV ws).length = ws.length := List.length_map ..
      have nLs : Lf ≠ st := d4.nst nLf
      refine ⟨_, rfl, .inl ⟨rfl, _, SqL.of hF6⟩, ?_⟩
      refine ⟨_, rfl, _, rfl, _, rfl, _, _, rfl, .inl ⟨_, SqL.of hLf6, rfl⟩, st, c, ns, _, rfl, d6, hns, (by omega), (by omega), fun z H7 z0 z1 d7 b7 => ?_⟩
      obtain ⟨j, rfl⟩ := Int.eq_ofNat_of_zero_le z0
      obtain ⟨kk, hkk⟩ : ∃ kk, ws[j]? = some kk := ⟨_, List.getElem?_eq_getElem (by omega)⟩
      have hkw : kk ∈ wt ss xs := hws ▸ List.mem_of_getElem? hkk
      obtain ⟨sc, x, pl, v, hsc, hx2, hp, hv, hnx, sin, haf⟩ := wt_nx ok4.ok si hkw
      have hkl : kk < 4 := by
        have := (List.getElem?_eq_some_iff.mp hsc).1
        omega
      have hF7 := b7 _ _ hF6 nFst
      refine ⟨_, _, _, _, rfl, rfl, SqL.of (b7 _ _ hLf6 nLs), atI_nat (show (ordV ws)[j]? = some (.int (kk : Int)) by unfold ordV; rw [List.getElem?_map, hkk]; rfl), ?_⟩
      refine ⟨_, _, _, rfl, rfl, hF7, (by unfold ordV; rw [List.length_map]; exact small6 (by omega)), ?_⟩
      generalize hH8 : upd H7 F _ = H8
      have eF8 : H8 F = some (.lst (ordV ks ++ [.int (kk : Int)])) := hH8 ▸ upd_same
      have k78 : KeepT H7 H8 := hH8 ▸ KeepT.lst hF7
      have b8 : But st H H8 := fun b u e n => by
        rw [← hH8, upd_ne (ne_of_none e nF0)]
        exact (b6.trans b7) _ _ e n
      have d8 : Drw H8 st c ns := by
        obtain ⟨hc, n', v', b', h0', hs⟩ := d7
        exact ⟨by rw [← hH8, upd_ne (ne_of_none dr.1 nF0)]; exact hc, n', v', b', h0', by rw [← hH8, upd_ne (Ne.symm nFst)]; exact hs⟩
      clear hH8
      have tA8 := tA.mono (dr.kt b8)
      have tB8 := ((tB4.mono (.same s46)).mono (d6.kt b7)).mono k78
      obtain ⟨o8, hst8⟩ := d8.at
      refine ⟨_, rfl, _, rfl, _, rfl, _, rfl, _, _, _, _, rfl, rfl, SqL.of eF8, atI_last _ _, st, A, B, o8, ss, xs, kk, pl, sc, x, v, hst8, rfl, tA8.at d8.nt, tB8.at d8.nt, (by omega), hsc, hx2, hp, hv, si.nonneg, fun q9 H9 s9 a9 => ?_⟩
      rw [haf] at a9
      have e1 : (nx ss xs kk).1 = xs.set kk (triedM v x (topM xs kk)).1 := by rw [hnx]
      have e2 : (nx ss xs kk).2 = (triedM v x (topM xs kk)).2 := by rw [hnx]
      rw [← e1, ← e2] at a9
      obtain ⟨_, u9, eu, _, h9, au⟩ := at_tup a9
      cases eu
      cases au with
      | @cons va _ _ _ aa ar =>
        cases ar with
        | cons ab ar2 =>
          cases ar2
          cases ab
          have ta9 := aa.tp (isT_st _)
          obtain ⟨a7, x7, rfl, _, _⟩ := Tp.ref (ds := (nx ss xs kk).1.map rowD) ta9
          refine ⟨_, _, rfl, SqT.of h9, rfl, _, _, rfl, _, _, rfl, rfl, ?_⟩
          have b9 := b8.tr' s9
          have d9 := d8.same s9
          have hF9 : H9 F = some (.lst (ordV (ks ++ [kk]))) := by
            have := s9 _ _ eF8
            unfold ordV at this ⊢
            rw [List.map_append]
            exact this
          have lk : (ks ++ [kk]).length ≤ i + 1 := by
            rw [List.length_append]
            show ks.length + 1 ≤ _
            omega
          have kl : ∀ k ∈ ks ++ [kk], k < 4 := fun k h => by
            rcases List.mem_append.mp h with h | h
            · exact ksl k h
            · rw [List.mem_singleton.mp h]
              exact hkl
          have go : ∀ e : Bool, ∃ (B : Addr) (xs : List Row) (ks : List Nat) (o5 o6 o7 : Option V), [some (V.ref st), some (.ref A), some (.bl b), some (.ref a7), some (.ref F), some (.int (0 + (i : Int))), some (.ref Lf), some (.bl e)] = [some (.ref st), some (.ref A), some (.bl b), some (.ref B), some (.ref F), o5, o6, o7] ∧ But st H H9 ∧ Drw H9 st c ns ∧ Tp H9 (.ref B) (stD xs) ∧ SI ss xs ∧ H9 F = some (.lst (ordV ks)) ∧ ks.length ≤ i + 1 ∧ ∀ k ∈ ks, k < 4 :=
            fun _ => ⟨a7, _, ks ++ [kk], _, _, _, rfl, b9, d9, ta9, sin, hF9, lk, kl⟩
          refine ⟨_, rfl, _, rfl, ?_⟩
          cases hend : (nx ss xs kk).2
          · exact iteF (iteF (go _))
          refine iteT ?_
          refine ⟨_, rfl, _, rfl, ?_⟩
          cases b
          · exact iteF (go _)
          · refine iteT ?_
            exact ⟨_, rfl, k F (ks ++ [kk]) H9 nF0 hF9 (by omega) kl d9 b9⟩
    · rintro σ H4 ⟨B, xs, ks, o5, o6, o7, rfl, b4, d4, tB4, si, hF4, lks, ksl⟩
      exact ⟨_, rfl, k F ks H4 nF0 hF4 (by omega) ksl d4 b4⟩
end
end C81

set_option Elab.async false
set_option maxRecDepth 100000
set_option maxHeartbeats 4000000
set_option linter.all false
namespace C81
open PySem L2 My M78

/-! how long the text of some data may get: the same for lists and tuples -/
mutual
def wl : PyData → Nat
  | .list ds => wlAll ds + 3
  | .tuple ds => wlAll ds + 3
  | .none => 4
  | .bool _ => 5
  | .int i => (PyData.shown (.int i)).length
  | .str x => (PyData.shown (.str x)).length
  | .dict kvs => (PyData.shown (.dict kvs)).length
def wlAll : List PyData → Nat
  | [] => 0
  | d :: ds => wl d + 2 + wlAll ds
end
theorem listText_le (ts : List Str) : (listText ts).length ≤ piled ts + 2 := by
  unfold listText
  rw [strLen_append]
  cases ts with
  | nil => exact Nat.le_refl _
  | cons t r =>
    show (textFrom 1 ("[" ++ (if 0 > 0 then ", " else "" : String) ++ t) r).length + 1 ≤ _
    rw [textFrom_length_pos r 1 _ (by decide), strLen_append, strLen_append, piled_cons]
    show 1 + 0 + t.length + piled r + 1 ≤ _
    omega
theorem tupleText_le (ts : List Str) : (tupleText ts).length ≤ piled ts + 3 := by
  unfold tupleText
  rw [strLen_append, strLen_append]
  have h1 : (Str.join ", " ts).length ≤ piled ts := by
    by_cases h : ts = []
    · subst h
      exact Nat.zero_le _
    · have := join_length_add ts h
      omega
  have h2 : ((if ts.length == 1 then ",)" else ")" : String) : Str).length ≤ 2 := by
    split <;> decide
  have h3 : ("(" : Str).length = 1 := rfl
  omega
mutual
theorem shown_wl : ∀ d : PyData, d.shown.length ≤ wl d
  | .none => by simp only [PyData.shown, wl]; decide
  | .bool b => by cases b <;> simp only [PyData.shown, wl] <;> decide
  | .int i => by simp only [wl]; exact Nat.le_refl _
  | .str x => by simp only [wl]; exact Nat.le_refl _
  | .dict kvs => by simp only [wl]; exact Nat.le_refl _
  | .list ds => by
    have h1 := listText_le (PyData.shownAll ds)
    have h2 := shownAll_wl ds
    simp only [PyData.shown, wl]
    omega
  | .tuple ds => by
    have h1 := tupleText_le (PyData.shownAll ds)
    have h2 := shownAll_wl ds
    simp only [PyData.shown, wl]
    omega
theorem shownAll_wl : ∀ ds : List PyData, piled (PyData.shownAll ds) ≤ wlAll ds
  | [] => by simp only [PyData.shownAll, wlAll]; exact Nat.le_refl _
  | d :: ds => by
    have h1 := shown_wl d
    have h2 := shownAll_wl ds
    simp only [PyData.shownAll, wlAll]
    rw [piled_cons]
    omega
end
theorem wl_sq {d : PyData} {ds : List PyData} (s : Sq2 d ds) : wl d = wlAll ds + 3 := by rcases s with rfl | rfl <;> simp only [wl]
theorem wlAll_le {W : Nat} : ∀ {ds : List PyData}, (∀ e ∈ ds, wl e ≤ W) → wlAll ds ≤ ds.length * (W + 2)
  | [], _ => by simp only [wlAll]; exact Nat.zero_le _
  | d :: ds, h => by
    have h1 := h d (.head _)
    have h2 := wlAll_le (W := W) (ds := ds) fun e he => h e (.tail _ he)
    simp only [wlAll, List.length_cons, Nat.add_mul, Nat.one_mul]
    simp only [Nat.add_mul, Nat.one_mul, Nat.mul_add] at h2 ⊢
    omega
theorem wlAll_mem : ∀ {ds : List PyData} {e : PyData}, e ∈ ds → wl e + 2 ≤ wlAll ds
  | d :: ds, e, h => by
    simp only [wlAll]
    rcases List.mem_cons.mp h with rfl | h
    · omega
    · have := wlAll_mem h
      omega
theorem wlAll_len : ∀ ds : List PyData, 2 * ds.length ≤ wlAll ds
  | [] => Nat.zero_le _
  | d :: ds => by
    have := wlAll_len ds
    simp only [wlAll, List.length_cons]
    omega
mutual
theorem Hnd.wl_eq : ∀ {d d' : PyData}, Hnd d d' → wl d' = wl d
  | _, _, .leaf _ => rfl
  | _, _, .seq s s' q => by rw [wl_sq s, wl_sq s', HndAll.wl_eq q]
theorem HndAll.wl_eq : ∀ {ds ds' : List PyData}, HndAll ds ds' → wlAll ds' = wlAll ds
  | _, _, .nil => rfl
  | _, _, .cons h q => by simp only [wlAll]; rw [Hnd.wl_eq h, HndAll.wl_eq q]
end
theorem sh_sq {d : PyData} {ds : List PyData} (s : Sq2 d ds) : d.showable = PyData.showableAll ds := by rcases s with rfl | rfl <;> simp only [PyData.showable]
theorem dp_sq {d : PyData} {ds : List PyData} (s : Sq2 d ds) : d.depth = PyData.depthAll ds + 1 := by rcases s with rfl | rfl <;> simp only [PyData.depth]
mutual
theorem Hnd.sh_eq : ∀ {d d' : PyData}, Hnd d d' → d'.showable = d.showable
  | _, _, .leaf _ => rfl
  | _, _, .seq s s' q => by rw [sh_sq s, sh_sq s', HndAll.sh_eq q]
theorem HndAll.sh_eq : ∀ {ds ds' : List PyData}, HndAll ds ds' → PyData.showableAll ds' = PyData.showableAll ds
  | _, _, .nil => rfl
  | _, _, .cons h q => by simp only [PyData.showableAll]; rw [Hnd.sh_eq h, HndAll.sh_eq q]
end
mutual
theorem Hnd.dp_eq : ∀ {d d' : PyData}, Hnd d d' → d'.depth = d.depth
  | _, _, .leaf _ => rfl
  | _, _, .seq s s' q => by rw [dp_sq s, dp_sq s', HndAll.dp_eq q]
theorem HndAll.dp_eq : ∀ {ds ds' : List PyData}, HndAll ds ds' → PyData.depthAll ds' = PyData.depthAll ds
  | _, _, .nil => rfl
  | _, _, .cons h q => by simp only [PyData.depthAll]; rw [Hnd.dp_eq h, HndAll.dp_eq q]
end
theorem HndAll.mem : ∀ {ds ds' : List PyData} {e' : PyData}, HndAll ds ds' → e' ∈ ds' → ∃ e ∈ ds, Hnd e e'
  | _, _, _, .nil, h => nomatch h
  | _, _, _, .cons h q, hm => by
    rcases List.mem_cons.mp hm with rfl | hm
    · exact ⟨_, .head _, h⟩
    · obtain ⟨e, he, r⟩ := q.mem hm
      exact ⟨e, .tail _ he, r⟩
theorem depthAll_mem : ∀ {ds : List PyData} {e : PyData}, e ∈ ds → e.depth ≤ PyData.depthAll ds
  | d :: ds, e, h => by
    simp only [PyData.depthAll]
    rcases List.mem_cons.mp h with rfl | h
    · omega
    · have := depthAll_mem h
      omega
theorem depthAll_le {n : Nat} : ∀ {ds : List PyData}, (∀ e ∈ ds, e.depth ≤ n) → PyData.depthAll ds ≤ n
  | [], _ => by simp only [PyData.depthAll]; exact Nat.zero_le _
  | d :: ds, h => by
    have h1 := h d (.head _)
    have h2 := depthAll_le (ds := ds) fun e he => h e (.tail _ he)
    simp only [PyData.depthAll]
    omega
theorem showableAll_of : ∀ {ds : List PyData}, (∀ e ∈ ds, e.showable = true) → PyData.showableAll ds = true
  | [], _ => by simp only [PyData.showableAll]
  | d :: ds, h => by
    simp only [PyData.showableAll]
    rw [h d (.head _), showableAll_of fun e he => h e (.tail _ he)]
    rfl
theorem levx_of : ∀ (n : Nat) {d : PyData}, d.depth ≤ n → wl d ≤ 10000000 → LevX n d := by
  intro n
  induction n with
  | zero =>
    intro d hd _
    cases h : isLT d
    · exact .leaf _ h
    · obtain ⟨ds, s⟩ := isLT_sq h
      rw [dp_sq s] at hd
      omega
  | succ n ih =>
    intro d hd hw
    cases h : isLT d
    · exact .leaf _ h
    · obtain ⟨ds, s⟩ := isLT_sq h
      rw [dp_sq s] at hd
      rw [wl_sq s] at hw
      have hl := wlAll_len ds
      refine .seq s (by omega) fun x hx => ?_
      have h1 := depthAll_mem hx
      have h2 := wlAll_mem hx
      exact ih (by omega) (by omega)
/-- small enough to be handed, shown and looked at: N parts at most -/
structure Fit (N : Nat) (d : PyData) : Prop where
  sh : d.showable = true
  dp : d.depth ≤ 4
  lf : isLT d = false → wl d ≤ 140
  sq : ∀ ds, Sq2 d ds → ds.length ≤ N ∧ ∀ e ∈ ds, wl e ≤ 140
theorem Fit.mono {N M : Nat} {d : PyData} (h : Fit N d) (l : N ≤ M) : Fit M d := ⟨h.sh, h.dp, h.lf, fun ds s => ⟨Nat.le_trans (h.sq ds s).1 l, (h.sq ds s).2⟩⟩
theorem Fit.wl {N : Nat} {d : PyData} (h : Fit N d) (hN : N ≤ 65600) : C81.wl d ≤ 9400000 := by
  cases hl : isLT d
  · have := h.lf hl
    omega
  · obtain ⟨ds, s⟩ := isLT_sq hl
    obtain ⟨h1, h2⟩ := h.sq ds s
    have h3 := wlAll_le h2
    rw [wl_sq s]
    omega
theorem Fit.lev {N : Nat} {d : PyData} (h : Fit N d) (hN : N ≤ 65600) : LevX 4 d := levx_of 4 h.dp (by have := h.wl hN; omega)
theorem Hnd.isLT_eq {d d' : PyData} (h : Hnd d d') : isLT d' = isLT d := by
  cases h with
  | leaf _ => rfl
  | seq s s' _ => rw [sq2_lt s, sq2_lt s']
theorem Hnd.fit {N : Nat} {d d' : PyData} (h : Hnd d d') (f : Fit N d) : Fit N d' := by
  refine ⟨by rw [h.sh_eq]; exact f.sh, by rw [h.dp_eq]; exact f.dp, fun hl => by rw [h.wl_eq]; exact f.lf (by rw [← h.isLT_eq]; exact hl), fun ds' s' => ?_⟩
  cases h with
  | leaf l =>
    rw [lt2_is, sq2_lt s'] at l
    cases l
  | @seq _ _ ds es s s2 q =>
    obtain rfl := sq2_fun s2 s'
    obtain ⟨h1, h2⟩ := f.sq ds s
    refine ⟨by rw [q.len]; exact h1, fun e' he' => ?_⟩
    obtain ⟨e, he, hh⟩ := q.mem he'
    rw [hh.wl_eq]
    exact h2 e he
theorem Fit.len {N : Nat} {d : PyData} (h : Fit N d) : ∀ ds, Sq2 d ds → ds.length ≤ N := fun ds s => (h.sq ds s).1
theorem Fit.small {N : Nat} {d : PyData} (h : Fit N d) (hN : N ≤ 65600) : ∀ ds, Sq2 d ds → ds.length ≤ 65600 ∧ ∀ e ∈ ds, ∀ es, Sq2 e es → es.length ≤ 1000 := fun ds s => by
  obtain ⟨h1, h2⟩ := h.sq ds s
  refine ⟨by omega, fun e he es se => ?_⟩
  have h3 := h2 e he
  have h4 := wlAll_len es
  rw [wl_sq se] at h3
  omega
theorem Fit.txt {N : Nat} {d : PyData} (h : Fit N d) (hN : N ≤ 65600) : d.shown.length ≤ sizeLine := by
  have h1 := h.wl hN
  have h2 := shown_wl d
  have h3 : 9400000 ≤ sizeLine := by decide
  omega
/-- as Fit, decided -/
def fitB (N : Nat) (d : PyData) : Bool := d.showable && (decide (d.depth ≤ 4) && (match d with
  | .list ds => decide (ds.length ≤ N) && ds.all fun e => decide (wl e ≤ 140)
  | .tuple ds => decide (ds.length ≤ N) && ds.all fun e => decide (wl e ≤ 140)
  | d => decide (wl d ≤ 140)))
theorem fit_of {N : Nat} {d : PyData} (h : fitB N d = true) : Fit N d := by
  unfold fitB at h
  rw [Bool.and_eq_true_iff, Bool.and_eq_true_iff] at h
  obtain ⟨h1, h2, h3⟩ := h
  refine ⟨h1, of_decide_eq_true h2, fun hl => ?_, fun ds s => ?_⟩
  · cases d <;> first | exact of_decide_eq_true h3 | cases hl
  · rcases s with rfl | rfl
    · rw [Bool.and_eq_true_iff] at h3
      exact ⟨of_decide_eq_true h3.1, fun e he => of_decide_eq_true (List.all_eq_true.mp h3.2 e he)⟩
    · rw [Bool.and_eq_true_iff] at h3
      exact ⟨of_decide_eq_true h3.1, fun e he => of_decide_eq_true (List.all_eq_true.mp h3.2 e he)⟩
theorem odd_fitB : (oddL.all fun d => fitB 10 d) = true := by decide +kernel
theorem odd_fit {d : PyData} (h : d ∈ oddL) : Fit 10 d := fit_of (List.all_eq_true.mp odd_fitB d h)
end C81

set_option Elab.async false
set_option maxRecDepth 100000
set_option maxHeartbeats 4000000
set_option linter.all false
namespace C81
open PySem L2 My M78
abbrev sBo : Stmt := top 58
abbrev nBo : List Str := ["_law_state", "_law_order", "_law_way", "_law_at"]
theorem scBo : FnScope nBo ["_law_state", "_law_order"] (defScope sBo) := ⟨rfl, rfl, rfl, by decide +kernel, rfl, by decide +kernel, by decide +kernel⟩
theorem cut_to {us : List V} {i : Nat} : cutV us none (some (i : Int)) = us.take i := by
  unfold cutV
  rw [HT.sIx_none, HT.sIx_nat, List.drop_zero, Nat.sub_zero]
  rcases Nat.le_total i us.length with h | h
  · rw [Nat.min_eq_left h]
  · rw [Nat.min_eq_right h, List.take_length, List.take_of_length_le h]
theorem cut_fr {us : List V} {i : Nat} : cutV us (some (i : Int)) none = us.drop i := by
  unfold cutV
  rw [HT.sIx_nat, HT.sIx_none]
  rw [List.take_of_length_le (by rw [List.length_drop]; exact Nat.le_refl _)]
  rcases Nat.le_total i us.length with h | h
  · rw [Nat.min_eq_left h]
  · rw [Nat.min_eq_right h, List.drop_length, List.drop_eq_nil_of_le h]
theorem cut_fr1 {us : List V} {i : Nat} : cutV us (some ((i : Int) + 1)) none = us.drop (i + 1) := by
  rw [show ((i : Int) + 1) = ((i + 1 : Nat) : Int) by omega]
  exact cut_fr
theorem slL {K : PySem.W.Frag} {H : Hp} {a : Addr} {us : List V} {lo hi : Option Int} {Q : VK} (h : H a = some (.lst us)) (q : ∀ b H', H b = none → Same H H' → H' b = some (.lst (cutV us lo hi)) → Q (.ref b) H') : rSlL K (.ref a) lo hi H Q :=
  ⟨a, us, rfl, SqL.of h, fun p np => q p _ np (same_new np) upd_same⟩
theorem catL {H : Hp} {a b : Addr} {us ws : List V} {Q : VK} (h1 : H a = some (.lst us)) (h2 : H b = some (.lst ws)) (hz : us.length + ws.length ≤ 1000) (q : ∀ c H', H c = none → Same H H' → H' c = some (.lst (us ++ ws)) → Q (.ref c) H') : rCat (.ref a) (.ref b) H Q :=
  ⟨a, b, us, ws, rfl, rfl, h1, h2, Nat.le_of_lt (small6 (by omega)), fun p np => q p _ np (same_new np) upd_same⟩
/-- the parts of an order that is bent -/
def smO : PyData → Bool
  | .none => true
  | .bool _ => true
  | .int i => decide (-1 ≤ i ∧ i ≤ 4)
  | .str x => decide (x = "0")
  | _ => false
theorem smO_fit {d : PyData} (h : smO d = true) : d.showable = true ∧ d.depth = 0 ∧ wl d ≤ 140 := by
  cases d with
  | none => exact ⟨rfl, rfl, by decide⟩
  | bool b => exact ⟨rfl, rfl, by cases b <;> decide⟩
  | int i =>
    have h := of_decide_eq_true (show decide (-1 ≤ i ∧ i ≤ 4) = true from h)
    have : i = -1 ∨ i = 0 ∨ i = 1 ∨ i = 2 ∨ i = 3 ∨ i = 4 := by omega
    rcases this with rfl | rfl | rfl | rfl | rfl | rfl <;> decide +kernel
  | str x =>
    have h := of_decide_eq_true (show decide (x = "0") = true from h)
    subst h
    decide +kernel
  | list _ => cases h
  | tuple _ => cases h
  | dict _ => cases h
theorem fit_smO {N : Nat} {ds : List PyData} (hl : ds.length ≤ N) (h : ∀ d ∈ ds, smO d = true) : Fit N (.list ds) := by
  refine ⟨?_, ?_, fun hl => (by cases hl), fun es s => ?_⟩
  · simp only [PyData.showable]
    exact showableAll_of fun e he => (smO_fit (h e he)).1
  · simp only [PyData.depth]
    have := depthAll_le (n := 0) (ds := ds) fun e he => Nat.le_of_eq (smO_fit (h e he)).2.1
    omega
  · obtain rfl := sq2_fun (Or.inl rfl) s
    exact ⟨hl, fun e he => (smO_fit (h e he)).2.2⟩
theorem smO_ord {k : Nat} (h : k < 4) : smO (.int (k : Int)) = true := decide_eq_true ⟨by omega, by omega⟩
theorem fit_ords {ks : List Nat} (hl : ks.length ≤ 17) (h : ∀ k ∈ ks, k < 4) : Fit 18 (.list (ordD ks)) := fit_smO (by unfold ordD; rw [List.length_map]; omega) fun d hd => by
  obtain ⟨k, hk, rfl⟩ := List.mem_map.mp hd
  exact smO_ord (h k hk)
theorem ax_ords {m : Addr} {H : Hp} (ks : List Nat) : AxAll m H (ordV ks) (ordD ks) := (at_ords ks).ax
def benO : List PyData := [.int 0, .int 1, .int 2, .int 3, .bool true, .bool false, .int (-1), .none, .str "0", .int 4]
theorem ax_benO {m : Addr} {H : Hp} : AxAll m H [.int 0, .int 1, .int 2, .int 3, .bl true, .bl false, .int (-1), .non, .str "0", .int 4] benO :=
  .cons (.int _) (.cons (.int _) (.cons (.int _) (.cons (.int _) (.cons (.bl _) (.cons (.bl _) (.cons (.int _) (.cons .non (.cons (.str _) (.cons (.int _) .nil)))))))))
theorem benO_sm : (benO.all smO) = true := by decide +kernel
section
variable {P : Program} {w : World} {K : PySem.W.Frag} {mg : Str → Option Value} {base : Heap}

/-- an order with something otherwise -/
def spBo : Sp := fun vs H Q _ => ∃ (st c F : Addr) (ns : List Int) (ks : List Nat), vs = [.ref st, .ref F] ∧ Drw H st c ns ∧ ns.length ≤ 63 ∧ F ≠ st ∧ H F = some (.lst (ordV ks)) ∧ ks.length ≤ 17 ∧ (∀ k ∈ ks, k < 4) ∧
  ∀ (y : V) (d : PyData) (H' : Hp), Ax st H' y d → Fit 18 d → Drw H' st c ns → But st H H' → Q y H'
theorem pr_bo (D' : Df K mg "_law_bent_order" sBo ["_law_state", "_law_order"]) (T : Ty mg) (PT : Pr P w K mg base 2 "_law_take" ["_law_state", "_law_many"] spTake) (PO : Pr P w K mg base 3 "_law_odd" ["_law_state"] spOddX) : Pr P w K mg base 4 "_law_bent_order" ["_law_state", "_law_order"] spBo := by
  refine D'.pr scBo (fun vs H Q E h => ?_) (fun f cdv A' outer s H vs Q E hr h => ?_)
  · obtain ⟨st, c, F, ns, ks, rfl, _⟩ := h
    rfl
  · obtain ⟨st, c, F, ns, ks, rfl, dr, hns, nF, hF, lks, ksl, k⟩ := h
    have nd := scBo.nd
    have hr2 := hr.mono (show 2 ≤ 3 by decide)
    refine ⟨_, (pss_cons (ps_par (by rfl) nd (i := 2) (j := 3) rfl rfl (by decide) rfl rfl (pa_cons (pe_callP PT hr2 (by rfl) (pa_cons (pv 0) (pa_cons pe_int pa_nil))) (pa_cons (pe_callP PT hr2 (by rfl) (pa_cons (pv 0) (pa_cons (pe_op op_add (pe_callB call_len (by rfl) T.len PySem.boot_len (pa_cons (pv 1) pa_nil)) pe_int) pa_nil))) pa_nil)) (by rfl))
      (pss_cons (ps_if (pt_cmpR op_eq (pv 2) pe_int (nomark _))
        (pss_one (ps_ret (pe_callP PO hr (by rfl) (pa_cons (pv 0) pa_nil))))
        pss_nil)
      (pss_cons (ps_if (pt_cmpR op_eq (pv 2) pe_int (nomark _))
        (pss_one (ps_ret (pe_op op_cat (pe_slice sl_list (pv 1) po_none (po_some (pv 3))) (pe_slice sl_list (pv 1) (po_some (pe_op op_add (pv 3) pe_int)) po_none))))
        pss_nil)
      (pss_one (ps_ret (pe_op op_cat (pe_op op_cat (pe_slice sl_list (pv 1) po_none (po_some (pv 3))) (pe_lst (pa_cons (pe_ix ix_tup (pe_tup (pa_cons pe_int (pa_cons pe_int (pa_cons pe_int (pa_cons pe_int (pa_cons pe_bl (pa_cons pe_bl (pa_cons (pe_un un_neg pe_int) (pa_cons pe_non (pa_cons pe_str (pa_cons pe_int pa_nil))))))))))) (pe_callP PT hr2 (by rfl) (pa_cons (pv 0) (pa_cons pe_int pa_nil))) (fun _ _ => rfl)) pa_nil))) (pe_slice sl_list (pv 1) (po_some (pe_op op_add (pv 3) (pe_op op_modN (pe_callTy call_int1 (by rfl) T.int (by decide +kernel) (pa_cons (pv 2) pa_nil)) pe_int))) po_none))))))), ?_⟩
    have lov : (ordV ks).length = ks.length := List.length_map ..
    refine ⟨_, rfl, st, c, ns, 8, rfl, dr, hns, (by decide), (by decide), fun wy H1 w0 w8 d1 b1 => ?_⟩
    refine ⟨_, rfl, _, rfl, _, _, rfl, .inl ⟨_, SqL.of (b1 _ _ hF nF), rfl⟩, _, _, rfl, rfl, ?_⟩
    refine ⟨st, c, ns, _, rfl, d1, hns, (by omega), (by omega), fun ai H2 a0 a1 d2 b12 => ?_⟩
    obtain ⟨j, rfl⟩ := Int.eq_ofNat_of_zero_le a0
    have hj : j ≤ ks.length := by omega
    have b2 := b1.trans b12
    have hF2 := b2 _ _ hF nF
    refine ⟨_, _, rfl, ?_⟩
    refine ⟨_, rfl, rfl, _, rfl, ?_⟩
    by_cases hw0 : V.int wy = V.int 0
    · rw [decide_eq_true hw0]
      refine iteT ?_
      obtain ⟨o2, hst2⟩ := d2.at
      exact ⟨_, rfl, st, c, ns, rfl, d2, hns, fun x d H' hd ax dr' bt => k x d H' (ax _ _ hst2) ((odd_fit hd).mono (by decide)) dr' (b2.trans bt)⟩
    rw [decide_eq_false hw0]
    refine iteF ?_
    refine ⟨_, rfl, rfl, _, rfl, ?_⟩
    by_cases hw1 : V.int wy = V.int 1
    · rw [decide_eq_true hw1]
      refine iteT ?_
      refine ⟨_, rfl, _, rfl, _, rfl, slL hF2 fun p1 H3 n1 s3 q1 => ?_⟩
      rw [cut_to] at q1
      refine ⟨_, rfl, _, rfl, _, _, rfl, rfl, _, rfl, ?_⟩
      dsimp only [tNoPart]
      refine slL (s3 _ _ hF2) fun p2 H4 n2 s4 q2 => ?_
      rw [cut_fr1] at q2
      refine catL (s4 _ _ q1) q2 (by rw [List.length_take, List.length_drop]; omega) fun p3 H5 n3 s5 q3 => ?_
      have s25 := Same.tr s3 (Same.tr s4 s5)
      have np3 : p3 ≠ st := (d2.same (Same.tr s3 s4)).nst n3
      refine k _ _ H5 (.lst np3 q3 (((ax_ords ks).take j).append ((ax_ords ks).drop (j + 1)))) (fit_smO ?_ fun d hd => ?_) (d2.same s25) (b2.tr' s25)
      · unfold ordD
        rw [List.length_append, List.length_take, List.length_drop, List.length_map]
        omega
      · have hd : d ∈ ordD ks := by
          rcases List.mem_append.mp hd with h | h
          · exact List.mem_of_mem_take h
          · exact List.mem_of_mem_drop h
        obtain ⟨k, hk, rfl⟩ := List.mem_map.mp hd
        exact smO_ord (ksl k hk)
    rw [decide_eq_false hw1]
    refine iteF ?_
    refine ⟨_, rfl, _, rfl, _, rfl, slL hF2 fun p1 H3 n1 s3 q1 => ?_⟩
    rw [cut_to] at q1
    refine ⟨_, rfl, (by show 10 ≤ sizeLine; decide), fun tp ntp => ?_⟩
    generalize htp : upd H3 tp _ = H4
    have s4 : Same H3 H4 := htp ▸ Same.new ntp
    have etp : H4 tp = some (.tup [.int 0, .int 1, .int 2, .int 3, .bl true, .bl false, .int (-1), .non, .str "0", .int 4]) := htp ▸ upd_same
    clear htp
    have s24 := Same.tr s3 s4
    refine ⟨_, rfl, st, c, ns, 10, rfl, d2.same s24, hns, (by decide), (by decide), fun ei H5 e0 e1 d5 b5 => ?_⟩
    obtain ⟨i, rfl⟩ := Int.eq_ofNat_of_zero_le e0
    have hi : i < 10 := by omega
    have ntps : tp ≠ st := (d2.same s3).nst ntp
    obtain ⟨x, hx⟩ : ∃ x, ([.int 0, .int 1, .int 2, .int 3, .bl true, .bl false, .int (-1), .non, .str "0", .int 4] : List V)[i]? = some x := ⟨_, List.getElem?_eq_getElem (by exact hi)⟩
    refine ⟨_, _, _, _, rfl, rfl, SqT.of (b5 _ _ etp ntps), atI_nat hx, ?_⟩
    refine ⟨(by show 1 ≤ sizeLine; decide), fun Lx nLx => ?_⟩
    generalize hLx : upd H5 Lx _ = H6
    have s6 : Same H5 H6 := hLx ▸ Same.new nLx
    have eLx : H6 Lx = some (.lst [x]) := hLx ▸ upd_same
    clear hLx
    have b25 : But st H2 H5 := (Same.but s24).trans b5
    have np1 : p1 ≠ st := d2.nst n1
    refine catL (s6 _ _ (b5 _ _ (s4 _ _ q1) np1)) eLx (by rw [List.length_take]; show _ + 1 ≤ _; omega) fun p2 H7 n2 s7 q2 => ?_
    have b26 := (b25.tr' s6)
    have hF7 := s7 _ _ (b26 _ _ hF2 nF)
    obtain ⟨g, rfl⟩ := Int.eq_ofNat_of_zero_le w0
    refine ⟨_, rfl, _, rfl, _, rfl, .inl ⟨_, rfl, _, _, rfl, rfl, (by show (2 : Int) ≠ 0; decide), _, _, rfl, rfl, _, rfl, ?_⟩⟩
    dsimp only [tNoPart]
    refine slL hF7 fun p3 H8 n3 s8 q3 => ?_
    rw [show ((j : Int) + ((g : Int).fmod 2)) = ((j + g % 2 : Nat) : Int) by rw [Int.fmod_eq_emod_of_nonneg _ (by decide)]; omega, cut_fr] at q3
    refine catL (s8 _ _ q2) q3 (by rw [List.length_append, List.length_take, List.length_drop]; show _ + 1 + _ ≤ _; omega) fun p4 H9 n4 s9 q4 => ?_
    have d6 := d5.same s6
    have s69 := Same.tr s7 (Same.tr s8 s9)
    have np4 : p4 ≠ st := (d6.same (Same.tr s7 s8)).nst n4
    obtain ⟨e, he, ae⟩ := (ax_benO (m := st) (H := H9)).get hx
    refine k _ _ H9 (.lst np4 q4 ((((ax_ords ks).take j).append (.cons ae .nil)).append ((ax_ords ks).drop (j + g % 2)))) (fit_smO ?_ fun d hd => ?_) (d6.same s69) (b2.trans (b26.tr' s69))
    · unfold ordD
      rw [List.length_append, List.length_append, List.length_take, List.length_drop, List.length_map]
      show _ + 1 + _ ≤ _
      omega
    · rcases List.mem_append.mp hd with h | h
      · rcases List.mem_append.mp h with h | h
        · obtain ⟨k, hk, rfl⟩ := List.mem_map.mp (List.mem_of_mem_take h)
          exact smO_ord (ksl k hk)
        · rw [List.mem_singleton.mp h]
          exact List.all_eq_true.mp benO_sm e (List.mem_of_getElem? he)
      · obtain ⟨k, hk, rfl⟩ := List.mem_map.mp (List.mem_of_mem_drop h)
        exact smO_ord (ksl k hk)
end
end C81

set_option Elab.async false
set_option maxRecDepth 100000
set_option maxHeartbeats 4000000
set_option linter.all false
namespace C81
open PySem L2 My M78
abbrev sBs : Stmt := top 59
abbrev nBs : List Str := ["_law_state", "_law_here", "_law_at", "_law_part", "_law_row", "_law_some"]
theorem scBs : FnScope nBs ["_law_state", "_law_here"] (defScope sBs) := ⟨rfl, rfl, rfl, by decide +kernel, rfl, by decide +kernel, by decide +kernel⟩

/-! what a list of states is made of -/
def bdR (r : Row) : Bool := decide (-8 ≤ r.p ∧ r.p ≤ 9 ∧ -8 ≤ r.l ∧ r.l ≤ 9)
structure Elt (d : PyData) : Prop where
  sh : d.showable = true
  dp : d.depth ≤ 3
  wt : wl d ≤ 140
  st : ∀ xs, stP d = some xs → xs.length ≤ 4 ∧ ∀ r ∈ xs, bdR r = true
def eltB (d : PyData) : Bool := d.showable && (decide (d.depth ≤ 3) && (decide (wl d ≤ 140) && (match stP d with
  | some xs => decide (xs.length ≤ 4) && xs.all bdR
  | none => true)))
theorem elt_of {d : PyData} (h : eltB d = true) : Elt d := by
  unfold eltB at h
  rw [Bool.and_eq_true_iff, Bool.and_eq_true_iff, Bool.and_eq_true_iff] at h
  obtain ⟨h1, h2, h3, h4⟩ := h
  refine ⟨h1, of_decide_eq_true h2, of_decide_eq_true h3, fun xs e => ?_⟩
  rw [e] at h4
  have h4 : (decide (xs.length ≤ 4) && xs.all bdR) = true := h4
  rw [Bool.and_eq_true_iff] at h4
  exact ⟨of_decide_eq_true h4.1, fun r hr => List.all_eq_true.mp h4.2 r hr⟩
theorem odd_eltB : (oddL.all eltB) = true := by decide +kernel
theorem odd_elt {d : PyData} (h : d ∈ oddL) : Elt d := elt_of (List.all_eq_true.mp odd_eltB d h)
theorem odd_lists : (oddL.all fun d => match d with
  | .list ds => decide (ds.length ≤ 1) && ds.all eltB
  | _ => true) = true := by decide +kernel
theorem odd_list {ds : List PyData} (h : PyData.list ds ∈ oddL) : ds.length ≤ 1 ∧ ∀ e ∈ ds, Elt e := by
  have h := List.all_eq_true.mp odd_lists _ h
  have h : (decide (ds.length ≤ 1) && ds.all eltB) = true := h
  rw [Bool.and_eq_true_iff] at h
  exact ⟨of_decide_eq_true h.1, fun e he => elt_of (List.all_eq_true.mp h.2 e he)⟩
/-- the parts of a row that was bent -/
def smR : PyData → Bool
  | .none => true
  | .bool _ => true
  | .int i => decide (-8 ≤ i ∧ i ≤ 9)
  | .str x => decide (x = "1")
  | _ => false
def smV : V → Bool
  | .non => true
  | .bl _ => true
  | .int i => decide (-8 ≤ i ∧ i ≤ 9)
  | .str x => decide (x = "1")
  | _ => false
def dV : V → PyData
  | .bl b => .bool b
  | .int i => .int i
  | .str x => .str x
  | _ => .none
theorem smV_tp {H : Hp} {v : V} (h : smV v = true) : Tp H v (dV v) ∧ smR (dV v) = true := by
  cases v <;> first | exact ⟨.non, rfl⟩ | exact ⟨.bl _, rfl⟩ | exact ⟨.int _, h⟩ | exact ⟨.str _, h⟩ | cases h
theorem smV_all {H : Hp} : ∀ {vs : List V}, (∀ v ∈ vs, smV v = true) → TpAll H vs (vs.map dV)
  | [], _ => .nil
  | v :: vs, h => .cons (smV_tp (h v (.head _))).1 (smV_all fun u hu => h u (.tail _ hu))
theorem smR_fit {d : PyData} (h : smR d = true) : d.showable = true ∧ d.depth = 0 ∧ wl d ≤ 5 := by
  cases d with
  | none => exact ⟨rfl, rfl, by decide⟩
  | bool b => exact ⟨rfl, rfl, by cases b <;> decide⟩
  | int i =>
    have h := of_decide_eq_true (show decide (-8 ≤ i ∧ i ≤ 9) = true from h)
    have : i = -8 ∨ i = -7 ∨ i = -6 ∨ i = -5 ∨ i = -4 ∨ i = -3 ∨ i = -2 ∨ i = -1 ∨ i = 0 ∨ i = 1 ∨ i = 2 ∨ i = 3 ∨ i = 4 ∨ i = 5 ∨ i = 6 ∨ i = 7 ∨ i = 8 ∨ i = 9 := by omega
    rcases this with rfl | rfl | rfl | rfl | rfl | rfl | rfl | rfl | rfl | rfl | rfl | rfl | rfl | rfl | rfl | rfl | rfl | rfl <;> decide +kernel
  | str x =>
    have h := of_decide_eq_true (show decide (x = "1") = true from h)
    subst h
    decide +kernel
  | list _ => cases h
  | tuple _ => cases h
  | dict _ => cases h
/-- a row, maybe bent -/
def RowB (d : PyData) : Prop := ∃ es, d = .tuple es ∧ es.length ≤ 4 ∧ ∀ e ∈ es, smR e = true
theorem rowB_fit {d : PyData} (h : RowB d) : d.showable = true ∧ d.depth ≤ 1 ∧ wl d ≤ 31 := by
  obtain ⟨es, rfl, hl, hs⟩ := h
  refine ⟨?_, ?_, ?_⟩
  · simp only [PyData.showable]
    exact showableAll_of fun e he => (smR_fit (hs e he)).1
  · simp only [PyData.depth]
    have := depthAll_le (n := 0) (ds := es) fun e he => Nat.le_of_eq (smR_fit (hs e he)).2.1
    omega
  · have := wlAll_le (W := 5) (ds := es) fun e he => (smR_fit (hs e he)).2.2
    simp only [wl]
    omega
theorem elt_rows {ds : List PyData} (hl : ds.length ≤ 4) (h : ∀ d ∈ ds, RowB d) : Elt (.tuple ds) := by
  refine ⟨?_, ?_, ?_, fun xs e => ?_⟩
  · simp only [PyData.showable]
    exact showableAll_of fun e he => (rowB_fit (h e he)).1
  · simp only [PyData.depth]
    have := depthAll_le (n := 1) (ds := ds) fun e he => (rowB_fit (h e he)).2.1
    omega
  · have := wlAll_le (W := 31) (ds := ds) fun e he => (rowB_fit (h e he)).2.2
    simp only [wl]
    omega
  · have e : rowsP ds = some xs := e
    obtain ⟨h1, h2⟩ := rowsP_get e
    refine ⟨by omega, fun r hr => ?_⟩
    obtain ⟨j, hj, er⟩ := List.getElem_of_mem hr
    obtain ⟨d, hd⟩ : ∃ d, ds[j]? = some d := ⟨_, List.getElem?_eq_getElem (by omega)⟩
    obtain ⟨x, hx, hp⟩ := h2 j d hd
    rw [List.getElem?_eq_getElem hj, er] at hx
    cases hx
    obtain ⟨es, rfl, _, hs⟩ := h d (List.mem_of_getElem? hd)
    have e4 := row4_some (show row4 es = some r from hp)
    rw [e4] at hs
    have a1 := of_decide_eq_true (show decide (-8 ≤ r.p ∧ r.p ≤ 9) = true from hs (.int r.p) (.head _))
    have a2 := of_decide_eq_true (show decide (-8 ≤ r.l ∧ r.l ≤ 9) = true from hs (.int r.l) (.tail _ (.tail _ (.tail _ (.head _)))))
    exact decide_eq_true ⟨a1.1, a1.2, a2.1, a2.2⟩
theorem rowB_of {x : Row} (h : bdR x = true) : RowB (rowD x) := by
  have h := of_decide_eq_true (show decide _ = true from h)
  refine ⟨_, rfl, Nat.le_refl _, fun e he => ?_⟩
  simp only [List.mem_cons, List.not_mem_nil, or_false] at he
  rcases he with rfl | rfl | rfl | rfl
  · exact decide_eq_true ⟨h.1, h.2.1⟩
  · rfl
  · rfl
  · exact decide_eq_true ⟨h.2.2.1, h.2.2.2⟩
theorem elt_st {xs : List Row} (hl : xs.length ≤ 4) (h : ∀ r ∈ xs, bdR r = true) : Elt (stD xs) := elt_rows (by rw [List.length_map]; exact hl) fun d hd => by
  obtain ⟨x, hx, rfl⟩ := List.mem_map.mp hd
  exact rowB_of (h x hx)
theorem shaped_st {xs : List Row} : SeqAt.shaped (stD xs) = true := by
  have h1 : PyData.canLayAll0 (xs.map rowD) = true := by
    induction xs with
    | nil => rfl
    | cons x r ih =>
      show (PyData.canLay0 (rowD x) && PyData.canLayAll0 (r.map rowD)) = true
      rw [ih]
      rfl
  have h2 : PyData.depthAll (xs.map rowD) ≤ 1 := depthAll_le fun e he => by
    obtain ⟨x, _, rfl⟩ := List.mem_map.mp he
    exact Nat.le_refl _
  unfold SeqAt.shaped
  rw [Bool.and_eq_true_iff]
  refine ⟨?_, decide_eq_true ?_⟩
  · unfold stD
    simpa only [PyData.canLay0] using h1
  · unfold stD
    simp only [PyData.depth]
    omega
theorem eqv_st_e (xs : List Row) : PyData.eqv (stD xs) (.tuple []) = xs.isEmpty := by
  cases xs <;> rfl
/-- a truth or an integer, as int(..) takes it -/
def toI : V → Int
  | .int i => i
  | .bl b => if b then 1 else 0
  | _ => 0
def rInt1 : List V → Hp → VK → Prop := fun xs H Q => (∃ i, xs = [.int i] ∧ Q (.int i) H) ∨ ∃ k, xs = [.bl k] ∧ Q (.int (if k then 1 else 0)) H
theorem call_intV {X : Cx} : CallR X (.type "int") rInt1 := call_int1
theorem int1_of {v : V} {H : Hp} {Q : VK} (h : (∃ i, v = .int i) ∨ ∃ b, v = .bl b) (q : Q (.int (toI v)) H) : rInt1 [v] H Q := by
  rcases h with ⟨i, rfl⟩ | ⟨b, rfl⟩
  · exact .inl ⟨i, rfl, q⟩
  · exact .inr ⟨b, rfl, q⟩
theorem row_part {x : Row} (hb : bdR x = true) {p : Nat} (hp : p < 4) : ∃ v, (rowV x)[p]? = some v ∧ smV v = true ∧ ((∃ i, v = .int i) ∨ ∃ b, v = .bl b) ∧ -8 ≤ toI v ∧ toI v ≤ 9 := by
  have h := of_decide_eq_true (show decide _ = true from hb)
  have hbl : ∀ b : Bool, -8 ≤ toI (.bl b) ∧ toI (.bl b) ≤ 9 := fun b => by cases b <;> decide
  rcases (show p = 0 ∨ p = 1 ∨ p = 2 ∨ p = 3 by omega) with rfl | rfl | rfl | rfl
  · exact ⟨_, rfl, decide_eq_true ⟨h.1, h.2.1⟩, .inl ⟨_, rfl⟩, h.1, h.2.1⟩
  · exact ⟨_, rfl, rfl, .inr ⟨_, rfl⟩, hbl _⟩
  · exact ⟨_, rfl, rfl, .inr ⟨_, rfl⟩, hbl _⟩
  · exact ⟨_, rfl, decide_eq_true ⟨h.2.2.1, h.2.2.2⟩, .inl ⟨_, rfl⟩, h.2.2.1, h.2.2.2⟩
theorem row_sm {x : Row} (hb : bdR x = true) : ∀ v ∈ rowV x, smV v = true := fun v hv => by
  obtain ⟨i, hi, e⟩ := List.getElem_of_mem hv
  obtain ⟨u, hu, s, _⟩ := row_part hb (p := i) hi
  rw [List.getElem?_eq_getElem hi, e] at hu
  cases hu
  exact s
theorem leaf_eqD {K : PySem.W.Frag} {H : Hp} {v : V} {j : Int} {Q : VK} (h : (∃ i, v = .int i) ∨ ∃ b, v = .bl b) (q : ∀ b, Q (.bl b) H) : rEqD K v (.int j) H Q := by
  rcases h with ⟨i, rfl⟩ | ⟨b, rfl⟩
  · exact ⟨_, _, .int i, .int j, rfl, rfl, q _⟩
  · exact ⟨_, _, .bl b, .int j, rfl, rfl, q _⟩
theorem tp_take {H : Hp} : ∀ {vs : List V} {ds : List PyData} (n : Nat), TpAll H vs ds → TpAll H (vs.take n) (ds.take n)
  | _, _, 0, _ => .nil
  | _, _, _ + 1, .nil => .nil
  | _, _, n + 1, .cons h q => .cons h (tp_take n q)
theorem tp_drop {H : Hp} : ∀ {vs : List V} {ds : List PyData} (n : Nat), TpAll H vs ds → TpAll H (vs.drop n) (ds.drop n)
  | _, _, 0, q => q
  | _, _, _ + 1, .nil => .nil
  | _, _, n + 1, .cons h q => tp_drop n q
theorem tp_app {H : Hp} : ∀ {vs us : List V} {ds es : List PyData}, TpAll H vs ds → TpAll H us es → TpAll H (vs ++ us) (ds ++ es)
  | _, _, _, _, .nil, q => q
  | _, _, _, _, .cons h t, q => .cons h (tp_app t q)
section
variable {K : PySem.W.Frag}
theorem spliceX {m B : Addr} {σ : L2.St} {H : Hp} {ub : List V} {ds : List PyData} {j : Nat} {tR : TE} {o : HO} {dr : PyData} {Q : VK} (h1 : σ[1]? = some (some (.ref B))) (h2 : σ[2]? = some (some (.int (j : Int)))) (hm : H m = some o) (hB1 : H B = some (.tup ub)) (aB : TpAll H ub ds)
    (hj : j < ds.length) (hlen : ds.length ≤ 1000) (hR : ∀ H1, Same H H1 → ∀ Q : VK, (∀ q H2, Same H1 H2 → Tp H2 (.ref q) dr → Q (.ref q) H2) → tR σ H1 Q)
    (k : ∀ p H', Same H H' → Tp H' (.ref p) (.tuple ((ds.take j ++ [dr]) ++ ds.drop (j + 1))) → Q (.ref p) H') :
    tOp (rCatA K) (tOp (rCatA K) (tSl (rSlA K) (tVar 1) tNoPart (tPart (tVar 2))) (tTup (tCons tR tNil))) (tSl (rSlA K) (tVar 1) (tPart (tOp (rI0 fun i j => .int (i + j)) (tVar 2) (tC (.int 1)))) tNoPart) σ H Q := by
  have lub : ub.length = ds.length := aB.length
  have w1 : ¬ (HT.sIx ub.length 0 none = 0 ∧ HT.sIx ub.length ub.length (some (j : Int)) = ub.length) := fun z => by
    have := z.2
    rw [HT.sIx_nat] at this
    omega
  refine ⟨_, h1, _, h2, _, rfl, _, _, rfl, SqT.of hB1, fun z => absurd z w1, fun _ p1 hp1 => ?_⟩
  rw [cut_to]
  have s4 := same_new (o := .tup (ub.take j)) hp1
  refine hR _ s4 _ fun q H2 s42 hq => ⟨(by show 1 ≤ sizeLine; decide), fun p2 hp2 => ?_⟩
  have s5 := same_new (o := .tup [.ref q]) hp2
  have sa : Same H H2 := Same.tr s4 s42
  have np : ∀ {Hx : Hp}, Same H Hx → ∀ {p : Addr}, Hx p = none → p ≠ m := fun s p hp z => by
    rw [z, s _ _ hm] at hp
    cases hp
  show rCatA K _ _ _ _
  refine cat_any (m := m) (a := p1) (b := p2) (s5 _ _ (s42 _ _ upd_same)) upd_same (np (fun _ _ e => e) hp1) (np sa hp2) (s5 _ _ (sa _ _ hm)) (by rw [List.length_take]; show _ + 1 ≤ _; exact Nat.le_of_lt (small6 (by omega))) (fun p3 H5 n3 s6 h3 => ?_)
  have sm6 : Same H H5 := Same.tr (Same.tr sa s5) s6
  have hB5 := sm6 _ _ hB1
  have w2 : ¬ (HT.sIx ub.length 0 (some ((j + 1 : Nat) : Int)) = 0 ∧ HT.sIx ub.length ub.length none = ub.length) := fun z => by
    have := z.1
    rw [HT.sIx_nat] at this
    omega
  refine ⟨_, h1, _, h2, _, _, rfl, rfl, _, rfl, _, _, rfl, SqT.of hB5, fun z => absurd z w2, fun _ p4 hp4 => ?_⟩
  rw [cut_fr1]
  have s7 := same_new (o := .tup (ub.drop (j + 1))) hp4
  show rCatA K _ _ _ _
  refine cat_any (m := m) (a := p3) (b := p4) (s7 _ _ h3) upd_same n3 (np sm6 hp4) (s7 _ _ (sm6 _ _ hm)) (by rw [List.length_append, List.length_take, List.length_drop]; show _ + 1 + _ ≤ _; exact Nat.le_of_lt (small6 (by omega))) (fun p5 H6 n5 s8 h5 => ?_)
  have sm8 : Same H H6 := Same.tr (Same.tr sm6 s7) s8
  refine k p5 _ sm8 (.tup h5 ?_)
  have hq6 := hq.mono (.same (Same.tr s5 (Same.tr s6 (Same.tr s7 s8))))
  exact tp_app (tp_app (tp_take j (aB.mono (.same sm8))) (.cons hq6 .nil)) (tp_drop (j + 1) (aB.mono (.same sm8)))
end
section
variable {P : Program} {w : World} {K : PySem.W.Frag} {mg : Str → Option Value} {base : Heap}

/-- a state with a part otherwise -/
def spBs : Sp := fun vs H Q _ => ∃ (st c : Addr) (ns : List Int) (x : V) (d : PyData), vs = [.ref st, x] ∧ Drw H st c ns ∧ ns.length ≤ 63 ∧ Ax st H x d ∧ Elt d ∧
  ∀ (y : V) (d' : PyData) (H' : Hp), Elt d' → (∀ z us, H z = some (.lst us) → Ax z H' y d') → Drw H' st c ns → But st H H' → Q y H'
theorem pr_bs (D' : Df K mg "_law_bent_state" sBs ["_law_state", "_law_here"]) (T : Ty mg) (PT : Pr P w K mg base 2 "_law_take" ["_law_state", "_law_many"] spTake) (PO : Pr P w K mg base 3 "_law_odd" ["_law_state"] spOddX) (P1 : Pr P w K mg base 3 "_law_one" ["_law_state", "_law_things"] (spOne K)) (PSo : Pr P w K mg base 1 "_law_state_of" ["_law_thing"] spSto) : Pr P w K mg base 4 "_law_bent_state" ["_law_state", "_law_here"] spBs := by
  refine D'.pr scBs (fun vs H Q E h => ?_) (fun f cdv A' outer s H vs Q E hr h => ?_)
  · obtain ⟨st, c, ns, x, d, rfl, _⟩ := h
    rfl
  · obtain ⟨st, c, ns, x, d, rfl, dr, hns, ax, el, k⟩ := h
    have nd := scBs.nd
    have hr1 := hr.mono (show 1 ≤ 3 by decide)
    have hr2 := hr.mono (show 2 ≤ 3 by decide)
    refine ⟨_, (pss_cons (ps_asg (pe_callP PSo hr1 (by rfl) (pa_cons (pv 1) pa_nil)) (pg_name (i := 1) nd rfl (Or.inl rfl)))
      (pss_cons (ps_if (PW.pt (pw_or (pt_cmpR op_isN (pv 1) pe_non (nomark _)) (pw_or1 (pt_cmpR (op_eqD hr.units) (pv 1) (pe_tup pa_nil) (nomark _)))))
        (pss_one (ps_ret (pe_callP PO hr (by rfl) (pa_cons (pv 0) pa_nil))))
        pss_nil)
      (pss_cons (ps_par (by rfl) nd (i := 2) (j := 3) rfl rfl (by decide) rfl rfl (pa_cons (pe_callP PT hr2 (by rfl) (pa_cons (pv 0) (pa_cons (pe_callB call_len (by rfl) T.len PySem.boot_len (pa_cons (pv 1) pa_nil)) pa_nil))) (pa_cons (pe_callP PT hr2 (by rfl) (pa_cons (pv 0) (pa_cons pe_int pa_nil))) pa_nil)) (by rfl))
      (pss_cons (ps_asg (pe_callTy call_list_of (by rfl) T.list (by decide +kernel) (pa_cons (pe_ix ix_tup (pv 1) (pv 2) (fun _ _ => rfl)) pa_nil)) (pg_name (i := 4) nd rfl (Or.inl rfl)))
      (pss_cons (ps_asg (pe_lst (pa_cons pe_int (pa_cons pe_int (pa_cons pe_int (pa_cons pe_int (pa_cons pe_int (pa_cons pe_bl (pa_cons pe_bl (pa_cons pe_non (pa_cons (pe_un un_neg pe_int) (pa_cons pe_int (pa_cons pe_str (pa_cons (pe_op op_sub pe_int (pe_callTy call_intV (by rfl) T.int (by decide +kernel) (pa_cons (pe_ix ix_list (pv 4) (pv 3) (fun _ _ => rfl)) pa_nil))) pa_nil))))))))))))) (pg_name (i := 5) nd rfl (Or.inl rfl)))
      (pss_cons (ps_asg (pe_op op_cat (pv 5) (pe_op op_rep (pe_lst (pa_cons (pe_callTy call_intV (by rfl) T.int (by decide +kernel) (pa_cons (pe_ix ix_list (pv 4) (pv 3) (fun _ _ => rfl)) pa_nil)) (pa_cons (pe_cmpR (op_eqD hr.units) (pe_ix ix_list (pv 4) (pv 3) (fun _ _ => rfl)) pe_int (nomark _)) pa_nil))) pe_int)) (pg_name (i := 5) nd rfl (Or.inl rfl)))
      (pss_cons (ps_asg (pe_callP P1 hr (by rfl) (pa_cons (pv 0) (pa_cons (pv 5) pa_nil))) (pg_sub (pv 4) (pv 3) set_list))
      (Evl.pss_cut (ps_if (pt_cmpR op_eq (pe_callP PT hr2 (by rfl) (pa_cons (pv 0) (pa_cons pe_int pa_nil))) pe_int (nomark _))
        (pss_one (ps_asg (pe_op op_cat (pe_slice sl_list (pv 4) po_none (po_some (pv 3))) (pe_slice sl_list (pv 4) (po_some (pe_op op_add (pv 3) pe_int)) po_none)) (pg_name (i := 4) nd rfl (Or.inl rfl))))
        pss_nil)
      (pss_one (ps_ret (pe_op op_catA (pe_op op_catA (pe_slice sl_tupA (pv 1) po_none (po_some (pv 2))) (pe_tup (pa_cons (pe_callTy call_tuple_of (by rfl) T.tuple (by decide +kernel) (pa_cons (pv 4) pa_nil)) pa_nil))) (pe_slice sl_tupA (pv 1) (po_some (pe_op op_add (pv 2) pe_int)) po_none)))))))))))), ?_⟩
    obtain ⟨o0, hst⟩ := dr.at
    have hsz : ∀ ds, Sq2 d ds → ds.length ≤ 1000 := fun ds s => by
      have h1 := wlAll_len ds
      have h2 := el.wt
      rw [wl_sq s] at h2
      omega
    have od : ∀ (Hx : Hp) (E' : XK), But st H Hx → Drw Hx st c ns → spOddX [.ref st] Hx Q E' := fun Hx E' bx dx =>
      ⟨st, c, ns, rfl, dx, hns, fun y d' H' hd ay dr' bt => k y d' H' (odd_elt hd) (fun z us hz => by
        by_cases e : z = st
        · subst e
          obtain ⟨ox, hx⟩ := dx.at
          exact ay _ _ hx
        · exact ay z _ (bx _ _ hz e)) dr' (bx.trans bt)⟩
    refine ⟨_, rfl, st, o0, x, d, rfl, hst, ax, hsz, fun xs e q H1 s1 nq tq => ?_, fun e H1 s1 => ?_⟩
    case refine_2 =>
      refine ⟨_, rfl, rfl, _, rfl, ?_⟩
      rw [decide_eq_true rfl]
      refine iteT (iteT ?_)
      exact ⟨_, rfl, od H1 (fun _ _ _ => False) (Same.but s1) (dr.same s1)⟩
    obtain ⟨hx4, hbd⟩ := el.st xs e
    refine ⟨_, rfl, rfl, _, rfl, ?_⟩
    rw [decide_eq_false (show ¬ V.ref q = V.non from fun z => by cases z)]
    refine iteF ?_
    refine ⟨_, rfl, (by show 0 ≤ sizeLine; decide), fun N1 nN1 => ?_⟩
    generalize hN1 : upd H1 N1 _ = H2
    have sN1 : Same H1 H2 := hN1 ▸ Same.new nN1
    have eN1 : H2 N1 = some (.tup []) := hN1 ▸ upd_same
    clear hN1
    have s2 := Same.tr s1 sN1
    have d2 := dr.same s2
    have t2 := tq.mono (.same sN1)
    refine ⟨_, _, (t2.at d2.nt).dp, Dp.tup (SqT.of eN1) .nil, shaped_st, rfl, ?_⟩
    rw [eqv_st_e]
    refine ⟨_, rfl, ?_⟩
    cases hE : xs.isEmpty
    case true =>
      refine iteT ?_
      exact ⟨_, rfl, od H2 (fun _ _ _ => False) (Same.but s2) d2⟩
    refine iteF ?_
    obtain ⟨_, ub, eq2, hq2, aq2⟩ := Tp.ref (ds := xs.map rowD) t2
    cases eq2
    have lub : ub.length = xs.length := by rw [aq2.length, List.length_map]
    have hx0 : 0 < xs.length := by
      cases xs with
      | nil => cases hE
      | cons a r => exact Nat.succ_pos _
    refine ⟨_, rfl, _, rfl, _, _, rfl, .inr ⟨_, SqT.of hq2, rfl⟩, st, c, ns, _, rfl, d2, hns, (by omega), (by omega), fun ai H3 a0 a1 d3 b3 => ?_⟩
    refine ⟨_, rfl, st, c, ns, 4, rfl, d3, hns, (by decide), (by decide), fun pi H4 p0 p1 d4 b34 => ?_⟩
    obtain ⟨j, rfl⟩ := Int.eq_ofNat_of_zero_le a0
    obtain ⟨p, rfl⟩ := Int.eq_ofNat_of_zero_le p0
    have hj : j < xs.length := by omega
    have hp : p < 4 := by omega
    refine ⟨_, _, rfl, ?_⟩
    have b24 : But st H2 H4 := b3.trans b34
    have b4 : But st H H4 := (Same.but s2).trans b24
    have k24 := d2.kt b24
    have hq4 := k24 _ _ hq2
    have aq4 := aq2.mono k24
    obtain ⟨xr, hxr⟩ : ∃ xr, xs[j]? = some xr := ⟨_, List.getElem?_eq_getElem hj⟩
    have hbx := hbd xr (List.mem_of_getElem? hxr)
    obtain ⟨vr, er⟩ : ∃ vr, ub[j]? = some vr := ⟨_, List.getElem?_eq_getElem (by omega)⟩
    obtain ⟨dr', edr, tr⟩ := aq4.get er
    rw [List.getElem?_map, hxr] at edr
    cases edr
    obtain ⟨R, rfl, _, hR⟩ := row_of (tr.at d4.nt)
    -- row
    refine ⟨_, rfl, _, rfl, _, _, _, _, rfl, rfl, SqT.of hq4, atI_nat er, ?_⟩
    dsimp only [tNil]
    refine ⟨_, _, rfl, .inr (SqT.of hR), fun A nA => ?_⟩
    generalize hA : upd H4 A _ = H5
    have s5 : Same H4 H5 := hA ▸ Same.new nA
    have eA : H5 A = some (.lst (rowV xr)) := hA ▸ upd_same
    clear hA
    obtain ⟨v, hv, sv, iv, lo, hi⟩ := row_part hbx hp
    -- some
    refine ⟨_, rfl, _, rfl, _, rfl, _, _, _, _, rfl, rfl, SqL.of eA, atI_nat hv, ?_⟩
    dsimp only [tNil]
    refine int1_of iv ?_
    refine ⟨_, _, rfl, rfl, (by show 12 ≤ sizeLine; decide), fun S nS => ?_⟩
    generalize hS : upd H5 S _ = H6
    have s6 : Same H5 H6 := hS ▸ Same.new nS
    have eS : H6 S = some (.lst [.int 0, .int 1, .int 2, .int 3, .int 4, .bl true, .bl false, .non, .int (-1), .int 9, .str "1", .int (1 - toI v)]) := hS ▸ upd_same
    clear hS
    have eA6 := s6 _ _ eA
    refine ⟨_, rfl, _, rfl, _, rfl, _, _, _, _, rfl, rfl, SqL.of eA6, atI_nat hv, ?_⟩
    dsimp only [tNil]
    refine int1_of iv ?_
    refine ⟨_, rfl, _, rfl, _, _, _, _, rfl, rfl, SqL.of eA6, atI_nat hv, ?_⟩
    dsimp only [tC, tNil]
    refine leaf_eqD iv fun bq => ?_
    refine ⟨(by show 2 ≤ sizeLine; decide), fun S2 nS2 => ?_⟩
    generalize hS2 : upd H6 S2 _ = H7
    have s7 : Same H6 H7 := hS2 ▸ Same.new nS2
    have eS2 : H7 S2 = some (.lst [.int (toI v), .bl bq]) := hS2 ▸ upd_same
    clear hS2
    refine ⟨_, _, _, rfl, rfl, eS2, (by decide), (by decide), (by show 2 * 3 ≤ sizeLine; decide), fun S3 nS3 => ?_⟩
    generalize hS3 : upd H7 S3 _ = H8
    have s8 : Same H7 H8 := hS3 ▸ Same.new nS3
    have eS3 : H8 S3 = some (.lst [.int (toI v), .bl bq, .int (toI v), .bl bq, .int (toI v), .bl bq]) := hS3 ▸ upd_same
    clear hS3
    have s68 := Same.tr s7 s8
    refine catL (s68 _ _ eS) eS3 (by show 12 + 6 ≤ 1000; decide) fun S4 H9 nS4 s9 eS4 => ?_
    have s59 := Same.tr s6 (Same.tr s68 s9)
    have s49 := Same.tr s5 s59
    have d9 := d4.same s49
    have nS4s : S4 ≠ st := (d4.same (Same.tr s5 (Same.tr s6 s68))).nst nS4
    have nAs : A ≠ st := d4.nst nA
    have smS : ∀ u ∈ ([.int 0, .int 1, .int 2, .int 3, .int 4, .bl true, .bl false, .non, .int (-1), .int 9, .str "1", .int (1 - toI v)] ++ [.int (toI v), .bl bq, .int (toI v), .bl bq, .int (toI v), .bl bq] : List V), smV u = true := by
      have h1 : smV (.int (1 - toI v)) = true := decide_eq_true ⟨by omega, by omega⟩
      have h2 : smV (.int (toI v)) = true := decide_eq_true ⟨lo, hi⟩
      intro u hu
      simp only [List.cons_append, List.nil_append, List.mem_cons, List.not_mem_nil, or_false] at hu
      rcases hu with rfl | rfl | rfl | rfl | rfl | rfl | rfl | rfl | rfl | rfl | rfl | rfl | rfl | rfl | rfl | rfl | rfl | rfl <;> first | exact h1 | exact h2 | rfl
    refine ⟨_, rfl, _, rfl, st, c, S4, ns, _, rfl, d9, hns, nS4s, .inl (SqL.of eS4), (by show 0 < 18; decide), (by show 18 ≤ 10000; decide), fun y H10 hy d10 b10 => ?_⟩
    have sy := smS y hy
    have eA10 := b10 _ _ (s59 _ _ eA) nAs
    refine ⟨_, rfl, _, rfl, _, _, _, _, rfl, rfl, eA10, Evl.ixN_nat (show p < (rowV xr).length from hp), ?_⟩
    generalize hA11 : upd H10 A _ = H11
    have eA11 : H11 A = some (.lst ((rowV xr).set p y)) := hA11 ▸ upd_same
    have hA0 : H4 A = none := nA
    have b11 : But st H4 H11 := fun b u e n => by
      rw [← hA11, upd_ne (ne_of_none e hA0)]
      exact b10 _ _ (s49 _ _ e) n
    have d11 : Drw H11 st c ns := by
      obtain ⟨hc, n', v', b', h0', hs⟩ := d10
      exact ⟨by rw [← hA11, upd_ne (ne_of_none d4.1 hA0)]; exact hc, n', v', b', h0', by rw [← hA11, upd_ne (Ne.symm nAs)]; exact hs⟩
    clear hA11
    have lset : ((rowV xr).set p y).length = 4 := by rw [List.length_set]; rfl
    have smset : ∀ u ∈ (rowV xr).set p y, smV u = true := fun u hu => by
      rcases List.mem_or_eq_of_mem_set hu with h | rfl
      · exact row_sm hbx u h
      · exact sy
    refine ⟨fun σ' H' => ∃ (A2 : Addr) (vs : List V), σ' = [some (.ref st), some (.ref q), some (.int (j : Int)), some (.int (p : Int)), some (.ref A2), some (.ref S4)] ∧ H' A2 = some (.lst vs) ∧ vs.length ≤ 4 ∧ (∀ u ∈ vs, smV u = true) ∧ Drw H' st c ns ∧ But st H4 H', ?_, ?_⟩
    · refine ⟨_, rfl, st, c, ns, 6, rfl, d11, hns, (by decide), (by decide), fun z H12 z0 z1 d12 b12 => ?_⟩
      have eA12 := b12 _ _ eA11 nAs
      have b412 := b11.trans b12
      refine ⟨rfl, _, rfl, ?_⟩
      cases decide (V.int z = V.int 0)
      · refine iteF ?_
        exact ⟨A, _, rfl, eA12, Nat.le_of_eq lset, smset, d12, b412⟩
      · refine iteT ?_
        refine ⟨_, rfl, _, rfl, _, rfl, slL eA12 fun p1 H13 n1 s13 q1 => ?_⟩
        rw [cut_to] at q1
        refine ⟨_, rfl, _, rfl, _, _, rfl, rfl, _, rfl, ?_⟩
        dsimp only [tNoPart]
        refine slL (s13 _ _ eA12) fun p2 H14 n2 s14 q2 => ?_
        rw [cut_fr1] at q2
        refine catL (s14 _ _ q1) q2 (by rw [List.length_take, List.length_drop, lset]; omega) fun p3 H15 n3 s15 q3 => ?_
        have s12 := Same.tr s13 (Same.tr s14 s15)
        refine ⟨p3, _, rfl, q3, (by rw [List.length_append, List.length_take, List.length_drop, lset]; omega), fun u hu => ?_, d12.same s12, b412.tr' s12⟩
        rcases List.mem_append.mp hu with h | h
        · exact smset u (List.mem_of_mem_take h)
        · exact smset u (List.mem_of_mem_drop h)
    · rintro σ' H' ⟨A2, vs, rfl, hA2, lvs, smvs, dZ, bZ⟩
      obtain ⟨oZ, hstZ⟩ := dZ.at
      have kZ := d4.kt bZ
      refine spliceX (K := K) (j := j) (ds := xs.map rowD) (dr := .tuple (vs.map dV)) rfl rfl hstZ (kZ _ _ hq4) (aq4.mono kZ) (by rw [List.length_map]; exact hj) (by rw [List.length_map]; omega) (fun H1 s1 Q' kq => ?_) fun pr HZ sZ tZ => ?_
      · refine ⟨_, rfl, _, _, rfl, .inl ⟨SqL.of (s1 _ _ hA2), fun qt hqt => ?_⟩⟩
        exact kq qt _ (Same.new hqt) (.tup upd_same (smV_all smvs))
      · have bb : But st H HZ := (b4.trans bZ).tr' sZ
        have dd := dZ.same sZ
        refine k _ (.tuple (((xs.map rowD).take j ++ [.tuple (vs.map dV)]) ++ (xs.map rowD).drop (j + 1))) HZ (elt_rows ?_ fun dx hdx => ?_) (fun z us hz => ?_) dd bb
        · rw [List.length_append, List.length_append, List.length_take, List.length_drop, List.length_map]
          show _ + 1 + _ ≤ _
          omega
        · rcases List.mem_append.mp hdx with h | h
          · rcases List.mem_append.mp h with h | h
            · obtain ⟨x', hx', rfl⟩ := List.mem_map.mp (List.mem_of_mem_take h)
              exact rowB_of (hbd x' hx')
            · rw [List.mem_singleton.mp h]
              refine ⟨_, rfl, by rw [List.length_map]; exact lvs, fun e' he' => ?_⟩
              obtain ⟨u, hu, rfl⟩ := List.mem_map.mp he'
              exact (smV_tp (H := HZ) (smvs u hu)).2
          · obtain ⟨x', hx', rfl⟩ := List.mem_map.mp (List.mem_of_mem_drop h)
            exact rowB_of (hbd x' hx')
        · have nz : NoT HZ z := by
            by_cases e : z = st
            · rw [e]
              exact dd.nt
            · exact .lst (bb _ _ hz e)
          exact (tZ.at nz).ax
end
end C81

set_option Elab.async false
set_option maxRecDepth 100000
set_option maxHeartbeats 4000000
set_option linter.all false
namespace C81
open PySem L2 My M78
abbrev sBst : Stmt := top 60
abbrev nBst : List Str := ["_law_state", "_law_states", "_law_way", "_law_at", "_law_found"]
theorem scBst : FnScope nBst ["_law_state", "_law_states"] (defScope sBst) := ⟨rfl, rfl, rfl, by decide +kernel, rfl, by decide +kernel, by decide +kernel⟩
section
variable {P : Program} {w : World} {K : PySem.W.Frag} {mg : Str → Option Value} {base : Heap}

/-- a list of states with something otherwise -/
def spBst : Sp := fun vs H Q _ => ∃ (st c L : Addr) (ns : List Int) (us : List V), vs = [.ref st, .ref L] ∧ Drw H st c ns ∧ ns.length ≤ 63 ∧ L ≠ st ∧ H L = some (.lst us) ∧ 0 < us.length ∧ us.length ≤ 69000 ∧ (∀ v ∈ us, ∃ d, Elt d ∧ Ax st H v d) ∧
  (∀ (x : V) (d : PyData) (H' : Hp), d ∈ oddL → Ax st H' x d → Drw H' st c ns → But st H H' → Q x H') ∧
  ∀ (C : Addr) (ys : List V) (H' : Hp), C ≠ st → H' C = some (.lst ys) → ys.length ≤ us.length + 1 → (∀ v ∈ ys, ∃ d, Elt d ∧ Ax st H' v d) → Drw H' st c ns → But st H H' → Q (.ref C) H'
theorem pr_bst (D' : Df K mg "_law_bent_states" sBst ["_law_state", "_law_states"]) (T : Ty mg) (PT : Pr P w K mg base 2 "_law_take" ["_law_state", "_law_many"] spTake) (PO : Pr P w K mg base 3 "_law_odd" ["_law_state"] spOddX) (PBs : Pr P w K mg base 4 "_law_bent_state" ["_law_state", "_law_here"] spBs) (PMx : Pr P w K mg base 3 "_law_mix" ["_law_state", "_law_things"] spMix) : Pr P w K mg base 5 "_law_bent_states" ["_law_state", "_law_states"] spBst := by
  refine D'.pr scBst (fun vs H Q E h => ?_) (fun f cdv A' outer s H vs Q E hr h => ?_)
  · obtain ⟨st, c, L, ns, us, rfl, _⟩ := h
    rfl
  · obtain ⟨st, c, L, ns, us, rfl, dr, hns, nL, hL, us0, usl, hus, kO, kL⟩ := h
    have nd := scBst.nd
    have hr2 := hr.mono (show 2 ≤ 4 by decide)
    have hr3 := hr.mono (show 3 ≤ 4 by decide)
    refine ⟨_, (pss_cons (ps_par (by rfl) nd (i := 2) (j := 3) rfl rfl (by decide) rfl rfl (pa_cons (pe_callP PT hr2 (by rfl) (pa_cons (pv 0) (pa_cons pe_int pa_nil))) (pa_cons (pe_callP PT hr2 (by rfl) (pa_cons (pv 0) (pa_cons (pe_callB call_len (by rfl) T.len PySem.boot_len (pa_cons (pv 1) pa_nil)) pa_nil))) pa_nil)) (by rfl))
      (pss_cons (ps_asg (pe_callTy call_list_of (by rfl) T.list (by decide +kernel) (pa_cons (pv 1) pa_nil)) (pg_name (i := 4) nd rfl (Or.inl rfl)))
      (pss_cons (ps_if (pt_cmpR op_eq (pv 2) pe_int (nomark _))
        (pss_one (ps_ret (pe_callP PO hr3 (by rfl) (pa_cons (pv 0) pa_nil))))
        pss_nil)
      (pss_cons (ps_if (pt_cmpR op_eq (pv 2) pe_int (nomark _))
        (pss_one (ps_expr (pe_bm PySem.F.plainAttrs_list PySem.F.slot_list_pop PySem.F.type_list_pop mt_popAt (pv 4) (pa_cons (pv 3) pa_nil))))
        (pss_one (ps_if (pt_cmpR op_eq (pv 2) pe_int (nomark _))
          (pss_one (ps_expr (pe_bm PySem.F.plainAttrs_list PySem.F.slot_list_append PySem.F.type_list_append mt_append (pv 4) (pa_cons (pe_ix ix_list (pv 4) (pv 3) (fun _ _ => rfl)) pa_nil))))
          (pss_one (ps_if (pt_cmpR op_eq (pv 2) pe_int (nomark _))
            (pss_one (ps_expr (pe_bm PySem.F.plainAttrs_list PySem.F.slot_list_insert PySem.F.type_list_insert mt_insert (pv 4) (pa_cons (pv 3) (pa_cons (pe_callP PBs hr (by rfl) (pa_cons (pv 0) (pa_cons (pe_ix ix_list (pv 4) (pv 3) (fun _ _ => rfl)) pa_nil))) pa_nil)))))
            (pss_one (ps_if (pt_cmpR op_eq (pv 2) pe_int (nomark _))
              (pss_one (ps_asg (pe_callP PBs hr (by rfl) (pa_cons (pv 0) (pa_cons (pe_ix ix_list (pv 4) (pv 3) (fun _ _ => rfl)) pa_nil))) (pg_sub (pv 4) (pv 3) set_list)))
              (pss_one (ps_if (pt_cmpR op_eq (pv 2) pe_int (nomark _))
                (pss_one (ps_asg (pe_callP PO hr3 (by rfl) (pa_cons (pv 0) pa_nil)) (pg_sub (pv 4) (pv 3) set_list)))
                (pss_one (ps_if (pt_cmpR op_eq (pv 2) pe_int (nomark _))
                  (pss_one (ps_asg (pe_callP PMx hr3 (by rfl) (pa_cons (pv 0) (pa_cons (pv 4) pa_nil))) (pg_name (i := 4) nd rfl (Or.inl rfl))))
                  pss_nil)))))))))))
      (pss_one (ps_ret (pv 4))))))), ?_⟩
    refine ⟨_, rfl, st, c, ns, 9, rfl, dr, hns, (by decide), (by decide), fun wy H1 w0 w9 d1 b1 => ?_⟩
    refine ⟨_, rfl, _, rfl, _, _, rfl, .inl ⟨_, SqL.of (b1 _ _ hL nL), rfl⟩, st, c, ns, _, rfl, d1, hns, (by omega), (by omega), fun ai H2 a0 a1 d2 b12 => ?_⟩
    obtain ⟨j, rfl⟩ := Int.eq_ofNat_of_zero_le a0
    have hj : j < us.length := by omega
    have b2 := b1.trans b12
    have hL2 := b2 _ _ hL nL
    have hus2 : ∀ v ∈ us, ∃ d, Elt d ∧ Ax st H2 v d := fun v hv => by
      obtain ⟨d, e1, e2⟩ := hus v hv
      exact ⟨d, e1, e2.mono b2⟩
    refine ⟨_, _, rfl, ?_⟩
    refine ⟨_, rfl, ?_⟩
    dsimp only [tNil]
    refine ⟨_, _, rfl, .inl (SqL.of hL2), fun C nC => ?_⟩
    generalize hC : upd H2 C _ = H3
    have s3 : Same H2 H3 := hC ▸ Same.new nC
    have eC : H3 C = some (.lst us) := hC ▸ upd_same
    clear hC
    have d3 := d2.same s3
    have b3 := b2.tr' s3
    have nCs : C ≠ st := d2.nst nC
    obtain ⟨x, hx⟩ : ∃ x, us[j]? = some x := ⟨_, List.getElem?_eq_getElem hj⟩
    obtain ⟨dx, ex, ax⟩ := hus2 x (List.mem_of_getElem? hx)
    -- a list at C, changed in the end
    have fin : ∀ (H4 : Hp) (ys : List V), But st H3 H4 → Drw H4 st c ns → ys.length ≤ us.length + 1 → (∀ v ∈ ys, v ∈ us ∨ ∃ d, Elt d ∧ Ax st H4 v d ∧ Ax C H4 v d) → Q (.ref C) (upd H4 C (.lst ys)) := fun H4 ys b34 d4 hl hy => by
      have b24 : But st H2 (upd H4 C (.lst ys)) := fun b u e n => by
        rw [upd_ne (ne_of_none e nC)]
        exact b34 _ _ (s3 _ _ e) n
      refine kL C ys _ nCs upd_same hl (fun v hv => ?_) ?_ (b2.trans b24)
      · rcases hy v hv with h | ⟨d, e1, e2, e3⟩
        · obtain ⟨d, e1, e2⟩ := hus2 v h
          exact ⟨d, e1, e2.mono b24⟩
        · exact ⟨d, e1, e2.but2 But2.upd e3⟩
      · obtain ⟨hc, n', v', b', h0', hs⟩ := d4
        exact ⟨by rw [upd_ne (ne_of_none d2.1 nC)]; exact hc, n', v', b', h0', by rw [upd_ne (Ne.symm nCs)]; exact hs⟩
    obtain ⟨o3, hst3⟩ := d3.at
    obtain ⟨zs3, hzs3⟩ : ∃ zs, H3 st = some (.lst zs) := by
      obtain ⟨_, n', v', b', _, hs⟩ := d3
      exact ⟨_, hs⟩
    refine ⟨_, rfl, rfl, _, rfl, ?_⟩
    by_cases hw0 : V.int wy = V.int 0
    · rw [decide_eq_true hw0]
      refine iteT ?_
      exact ⟨_, rfl, st, c, ns, rfl, d3, hns, fun x d H' hd ax dr' bt => kO x d H' hd (ax _ _ hst3) dr' (b3.trans bt)⟩
    rw [decide_eq_false hw0]
    refine iteF ?_
    -- one out
    refine ⟨_, rfl, rfl, _, rfl, ?_⟩
    by_cases hw1 : V.int wy = V.int 1
    · rw [decide_eq_true hw1]
      refine iteT ?_
      refine ⟨_, rfl, .inl ⟨rfl, _, SqL.of eC⟩, _, rfl, ?_⟩
      refine ⟨C, _, (j : Int), j, x, rfl, rfl, eC, (by omega), (by omega), ?_, hx, ?_⟩
      · have h1 : ¬ (j : Int) < 0 := by omega
        have h2 : (j : Int) < ((us.length : Nat) : Int) := by omega
        unfold seqIndex?
        simp only [if_neg h1]
        rw [if_pos]
        · rfl
        · rw [Bool.and_eq_true]
          exact ⟨decide_eq_true (by omega), decide_eq_true h2⟩
      · refine ⟨_, rfl, fin H3 _ (But.refl _ _) d3 ?_ fun v hv => .inl (List.mem_of_mem_eraseIdx hv)⟩
        have := len_pop hx
        omega
    rw [decide_eq_false hw1]
    refine iteF ?_
    -- one twice
    refine ⟨_, rfl, rfl, _, rfl, ?_⟩
    by_cases hw2 : V.int wy = V.int 2
    · rw [decide_eq_true hw2]
      refine iteT ?_
      refine ⟨_, rfl, .inl ⟨rfl, _, SqL.of eC⟩, _, rfl, _, rfl, _, _, _, _, rfl, rfl, SqL.of eC, atI_nat hx, _, _, _, rfl, rfl, eC, small6 (by omega), ?_⟩
      refine ⟨_, rfl, fin H3 _ (But.refl _ _) d3 (by rw [List.length_append]; exact Nat.le_refl _) fun v hv => .inl ?_⟩
      rcases List.mem_append.mp hv with h | h
      · exact h
      · rw [List.mem_singleton.mp h]
        exact List.mem_of_getElem? hx
    rw [decide_eq_false hw2]
    refine iteF ?_
    -- one more
    refine ⟨_, rfl, rfl, _, rfl, ?_⟩
    by_cases hw3 : V.int wy = V.int 3
    · rw [decide_eq_true hw3]
      refine iteT ?_
      refine ⟨_, rfl, .inl ⟨rfl, _, SqL.of eC⟩, _, rfl, _, rfl, _, rfl, _, rfl, _, _, _, _, rfl, rfl, SqL.of eC, atI_nat hx, ?_⟩
      refine ⟨st, c, ns, x, dx, rfl, d3, hns, ax.mono (Same.but s3), ex, fun y dy H4 ey ay d4 b4 => ?_⟩
      refine ⟨C, us, (j : Int), y, rfl, rfl, b4 _ _ eC nCs, small6 (by omega), (by omega), (by omega), ?_⟩
      refine ⟨_, rfl, fin H4 _ b4 d4 ?_ fun v hv => ?_⟩
      · rw [List.length_append, List.length_append, List.length_take, List.length_drop]
        show _ + 1 + _ ≤ _
        omega
      · rcases List.mem_append.mp hv with h | h
        · rcases List.mem_append.mp h with h | h
          · exact .inl (List.mem_of_mem_take h)
          · rw [List.mem_singleton.mp h]
            exact .inr ⟨dy, ey, ay _ _ hzs3, ay _ _ eC⟩
        · exact .inl (List.mem_of_mem_drop h)
    rw [decide_eq_false hw3]
    refine iteF ?_
    -- one bent
    refine ⟨_, rfl, rfl, _, rfl, ?_⟩
    by_cases hw4 : V.int wy = V.int 4
    · rw [decide_eq_true hw4]
      refine iteT ?_
      refine ⟨_, rfl, _, rfl, _, rfl, _, _, _, _, rfl, rfl, SqL.of eC, atI_nat hx, ?_⟩
      refine ⟨st, c, ns, x, dx, rfl, d3, hns, ax.mono (Same.but s3), ex, fun y dy H4 ey ay d4 b4 => ?_⟩
      refine ⟨_, rfl, _, rfl, _, _, _, _, rfl, rfl, b4 _ _ eC nCs, Evl.ixN_nat hj, ?_⟩
      refine ⟨_, rfl, fin H4 _ b4 d4 (by rw [List.length_set]; omega) fun v hv => ?_⟩
      rcases List.mem_or_eq_of_mem_set hv with h | rfl
      · exact .inl h
      · exact .inr ⟨dy, ey, ay _ _ hzs3, ay _ _ eC⟩
    rw [decide_eq_false hw4]
    refine iteF ?_
    -- one odd
    refine ⟨_, rfl, rfl, _, rfl, ?_⟩
    by_cases hw5 : V.int wy = V.int 5
    · rw [decide_eq_true hw5]
      refine iteT ?_
      refine ⟨_, rfl, st, c, ns, rfl, d3, hns, fun y dy H4 hd ay d4 b4 => ?_⟩
      refine ⟨_, rfl, _, rfl, _, _, _, _, rfl, rfl, b4 _ _ eC nCs, Evl.ixN_nat hj, ?_⟩
      refine ⟨_, rfl, fin H4 _ b4 d4 (by rw [List.length_set]; omega) fun v hv => ?_⟩
      rcases List.mem_or_eq_of_mem_set hv with h | rfl
      · exact .inl h
      · exact .inr ⟨dy, odd_elt hd, ay _ _ hst3, ay _ _ eC⟩
    rw [decide_eq_false hw5]
    refine iteF ?_
    -- in another order
    refine ⟨_, rfl, rfl, _, rfl, ?_⟩
    by_cases hw6 : V.int wy = V.int 6
    · rw [decide_eq_true hw6]
      refine iteT ?_
      refine ⟨_, rfl, _, rfl, st, c, C, ns, us, rfl, d3, hns, eC, (by omega), fun ys q H4 perm nq hq d4 b4 => ?_⟩
      refine ⟨_, rfl, kL q ys H4 (d3.nst nq) hq (by rw [perm.length_eq]; omega) (fun v hv => ?_) d4 (b3.trans b4)⟩
      obtain ⟨d, e1, e2⟩ := hus2 v (perm.mem_iff.mp hv)
      exact ⟨d, e1, (e2.mono (Same.but s3)).mono b4⟩
    rw [decide_eq_false hw6]
    refine iteF ?_
    refine ⟨_, rfl, kL C us H3 nCs eC (by omega) (fun v hv => ?_) d3 b3⟩
    obtain ⟨d, e1, e2⟩ := hus2 v hv
    exact ⟨d, e1, e2.mono (Same.but s3)⟩
end
end C81

set_option Elab.async false
set_option maxRecDepth 100000
set_option maxHeartbeats 4000000
set_option linter.all false
/-! a list against an empty one, whatever is in it; a call of a variable that holds one of several defs. -/
namespace My
open PySem PySem.Spec PyProof.Rows L2
section
variable {X : Cx}
/-- a != b, b an empty list -/
def rNeE (K : PySem.W.Frag) : R2 := fun x y H Q => ∃ a b xs, x = .ref a ∧ y = .ref b ∧ SqL K H a xs ∧ SqL K H b [] ∧ Q (.bl (!xs.isEmpty)) H
theorem op_neE (hu : X.A.units + 64 < cLine) : OpR X (compareOp .NotEq) (rNeE X.K) := by
  intro pins s σ H x y v u Q I rx ry h
  obtain ⟨a, b, xs, rfl, rfl, ha, hb, q⟩ := h
  cases (show v = Value.ref a from rx)
  cases (show u = Value.ref b from ry)
  obtain ⟨us, r1, p1, _⟩ := I.list ha
  obtain ⟨ws, r2, p2, _⟩ := I.list hb
  cases r2
  cases r1 with
  | nil => exact SeqAt.RcNeAt.lists (e := fun _ => true) p1.isList p2.isList rfl (by omega) (fun j h1 _ => absurd h1 (Nat.not_lt_zero j)) X.prog X.w _ _ ⟨.bl false, H, I, rfl, q⟩
  | cons r rr => exact SeqAt.RcNeAt.lists_lengths p1.isList p2.isList rfl (by omega) X.prog X.w _ _ ⟨.bl true, H, I, rfl, q⟩
/-- of several defs that the slot may hold -/
def tCallR (i : Nat) (S : Addr → Sp → Prop) (t : TA) : TE := fun σ H Q => ∃ f sp, σ[i]? = some (some (.ref f)) ∧ S f sp ∧ t σ H fun vs H1 => sp vs H1 Q (fun _ _ _ => False)
theorem pe_callR {S : Addr → Sp → Prop} {k i : Nat} {x : Str} {p pos : Pos} {e : Expr} {es : List Expr} {t : TA} (A : ∀ f sp, S f sp → Held X.prog X.w X.K X.mg X.base k f sp) (hr : Room k X.A) (hN : X.N[i]? = some x) (hv : Vis X.env.scope x) (ha : PA X (e :: es) t)
    (hdb : (x == ("__debug__" : Str)) = false := by decide) (hcd : (x == ("__classdict__" : Str)) = false := by decide)
    (he : starEach (e :: es) X.env = (false, eval e X.env) :: starEach es X.env := by rfl) (hpl : (backTo pos (starEach es X.env)).any (·.1) = false := by rfl) : PE X (.Call (.Name x p) (e :: es) [] pos) (tCallR i S t) := by
  refine ⟨fun pins s σ H Q I h => ?_⟩
  obtain ⟨f, sp, hs, hS, ht⟩ := h
  obtain ⟨fd, ps, F, hk, hb⟩ := (A f sp hS).ex
  refine (pe_callL (i := i) (f := f) (sp := sp) (dvs := []) (E := fun _ _ _ => False) F hr hN hv hk hb .nil (fun _ _ _ _ _ _ _ z => z.elim) ha hdb hcd he hpl).run pins s σ H Q I ⟨hs, ?_⟩
  have e0 : (fun (vs : List V) (H1 : Hp) => sp (vs ++ []) H1 Q (fun _ _ _ => False)) = fun vs H1 => sp vs H1 Q (fun _ _ _ => False) := by
    funext vs H1
    rw [List.append_nil]
  show t σ H (fun vs H1 => sp (vs ++ []) H1 Q (fun _ _ _ => False))
  rw [e0]
  exact ht
end
end My

set_option Elab.async false
set_option maxRecDepth 100000
set_option maxHeartbeats 4000000
set_option linter.all false
namespace C81
open PySem L2 My M78
abbrev sRdr : Stmt := top 54
abbrev nRdr : List Str := ["_law_scripts_here", "_law_turned", "_law_one_here", "_law_word"]
theorem scRdr : FnScope nRdr ["_law_scripts_here"] (defScope sRdr) := ⟨rfl, rfl, rfl, by decide +kernel, rfl, by decide +kernel, by decide +kernel⟩

/-- the scope of the outer comprehension -/
abbrev SC2 : Scope := { kind := .function, names := [(".0", .local), ("_law_one_here", .local), ("tuple", .globalImplicit), ("_law_turned", .cell)], isGenerator := false, isCoroutine := false }
/-- one word as a reader says it -/
def rdW : Wd → Wd
  | .imm => .beg
  | .exc => .beg
  | v => v
def rdS (sc : List Wd) : List Wd := (sc.filter fun v => !decide (v = .wri)).map rdW
theorem rdS_app (a b : List Wd) : rdS (a ++ b) = rdS a ++ rdS b := by
  unfold rdS
  rw [List.filter_append, List.map_append]
theorem op_rd (v : Wd) (o r : Bool) : v ≠ .wri → opB (rdW v) o = opB v o ∧ rdB (rdW v) r = rdB v r ∧ okW (rdW v) o r = okW v o r := by
  cases v <;> cases o <;> cases r <;> decide
theorem op_wri (o r : Bool) : opB .wri o = o ∧ rdB .wri r = r := by cases o <;> cases r <;> decide
theorem flg_snoc (sc : List Wd) (v : Wd) : flg (sc ++ [v]) (sc ++ [v]).length = (opB v (flg sc sc.length).1, rdB v (flg sc sc.length).2) := by
  rw [List.length_append]
  show (match (sc ++ [v])[sc.length]? with | some v' => (opB v' (flg (sc ++ [v]) sc.length).1, rdB v' (flg (sc ++ [v]) sc.length).2) | none => flg (sc ++ [v]) sc.length) = _
  rw [List.getElem?_append_right (Nat.le_refl _), Nat.sub_self, flg_app sc [v] (Nat.le_refl _)]
  rfl
theorem rd_ok (sc : List Wd) (h : okAll sc) : ∀ n, n ≤ sc.length → okAll (rdS (sc.take n)) ∧ flg (rdS (sc.take n)) (rdS (sc.take n)).length = flg sc n
  | 0, _ => ⟨fun n v e => by simp [rdS] at e, rfl⟩
  | n + 1, hn => by
    obtain ⟨h1, h2⟩ := rd_ok sc h n (by omega)
    have e : sc[n]? = some sc[n] := List.getElem?_eq_getElem (by omega)
    have fe : flg sc (n + 1) = (opB sc[n] (flg sc n).1, rdB sc[n] (flg sc n).2) := by
      show (match sc[n]? with | some v => (opB v (flg sc n).1, rdB v (flg sc n).2) | none => flg sc n) = _
      rw [e]
    have hk := h n _ e
    rw [take_succ' e, rdS_app, fe]
    generalize sc[n] = v at hk
    by_cases hw : v = .wri
    · subst hw
      rw [show rdS [Wd.wri] = [] from rfl, List.append_nil, h2, (op_wri _ (flg sc n).2).1, (op_wri (flg sc n).1 _).2]
      exact ⟨h1, rfl⟩
    · have ev : rdS [v] = [rdW v] := by
        unfold rdS
        rw [List.filter_cons_of_pos (by rw [decide_eq_false hw]; rfl)]
        rfl
      obtain ⟨o1, o2, o3⟩ := op_rd v (flg sc n).1 (flg sc n).2 hw
      rw [ev]
      refine ⟨h1.snoc ?_, ?_⟩
      · rw [h2, o3]
        exact hk
      · rw [flg_snoc, h2, o1, o2]
theorem rdS_len (sc : List Wd) : (rdS sc).length ≤ sc.length := by
  unfold rdS
  rw [List.length_map]
  exact List.length_filter_le _ _
theorem rd_scr {sc : List Wd} (h : okScr sc) : okScr (rdS sc) := by
  refine ⟨Nat.le_trans (rdS_len sc) h.1, ?_⟩
  have := (rd_ok sc h.2 sc.length (Nat.le_refl _)).1
  rw [List.take_length] at this
  exact this
def turnK : List (Key × V) := [(Sum.inr "immediate", .str "begin"), (Sum.inr "exclusive", .str "begin")]
theorem turn_get (v : Wd) : (valV (mergeK [] turnK) (Sum.inr (wS v))).getD (.str (wS v)) = .str (wS (rdW v)) := by cases v <;> decide +kernel
theorem at_words_any {m z : Addr} {H H' : Hp} : ∀ {vs : List V} {sc : List Wd}, AtAll m H vs (scE sc) → AtAll z H' vs (scE sc) ∧ vs = wV sc
  | _, [], h => by
    cases h
    exact ⟨.nil, rfl⟩
  | _, v :: r, h => by
    cases h with
    | cons h1 h2 =>
      cases h1
      have := at_words_any (z := z) (H' := H') h2
      exact ⟨.cons (.str _) this.1, by rw [this.2]; rfl⟩
section
variable {P : Program} {w : World} {K : PySem.W.Frag} {mg : Str → Option Value} {base : Heap}

def spRdr : Sp := fun vs H Q _ => ∃ (m A : Addr) (o : HO) (ss : List (List Wd)), H m = some o ∧ vs = [.ref A] ∧ At m H (.ref A) (scD ss) ∧ ss.length ≤ 4 ∧ (∀ sc ∈ ss, okScr sc) ∧
  ∀ (q : Addr) (H' : Hp), Same H H' → At m H' (.ref q) (scD (ss.map rdS)) → Q (.ref q) H'
theorem pr_rdr (D' : Df K mg "_law_readers" sRdr ["_law_scripts_here"]) (T : Ty mg) : Pr P w K mg base 1 "_law_readers" ["_law_scripts_here"] spRdr := by
  refine D'.pr scRdr (fun vs H Q E h => ?_) (fun f cdv A outer s H vs Q E hr h => ?_)
  · obtain ⟨m, A, o, ss, _, rfl, _⟩ := h
    rfl
  · obtain ⟨m, A, o, ss, hm, rfl, hA, l4, hok, k⟩ := h
    have nd := scRdr.nd
    refine ⟨_, (pss_cons (ps_asg (pe_disp (pps_cons pe_str pe_str (pps_cons pe_str pe_str pps_nil)) (by rfl) (by rfl) (fun z => by cases z) (by decide)) (pg_name (i := 1) nd rfl (Or.inr rfl)))
      (pss_one (ps_ret (pe_callTy call_tuple_of (by rfl) T.tuple (by decide +kernel) (pa_cons (pe_lc (own := [("_law_one_here", 2)]) (g := gName 2) (tt := tYes) (te := tCB (rTupOf K) (tCons (tLc (iTup K (tVar 2)) (gName 3) (tTest (tOp rNe (tVar 3) (tC (.str "write")))) (tDGet2 (tVar 1) (tVar 3) (tVar 3)) [3]) tNil)) (by rfl) nd (pi_tup (pv 0))
  (blkOk_by (own := [("_law_one_here", 2)]) (N := nRdr) (sc := defScope sRdr) (by decide +kernel))
  (fun _ _ _ _ _ => pg_name (i := 2) nd rfl (Or.inl rfl) (Or.inr rfl)) (fun _ _ _ _ _ => pts_nil)
  (fun _ _ _ _ _ => (pe_callTy call_tuple_of (by rfl) T.tuple (by decide +kernel) (pa_cons (pe_lc (own := [("_law_word", 3)]) (g := gName 3) (by rfl) nd (pi_tup (pv 2))
  (blkOk_by (own := [("_law_word", 3)]) (N := nRdr) (sc := SC2) (by decide +kernel))
  (fun _ _ _ _ _ => pg_name (i := 3) nd rfl (Or.inl rfl) (Or.inr rfl)) (fun _ _ _ _ _ => pts_one (pt_cmpR op_ne (pv 3) pe_str (nomark _)))
  (fun _ _ _ _ _ => (pe_dget2 (hu_of hr) (pv 1) (pv 3) (pv 3) ⟨rfl, rfl, rfl, rfl⟩))) pa_nil)))) pa_nil))))), ?_⟩
    intro dp hdp
    refine ⟨upd_same, turnK, rfl, (by show 2 ≤ 15; decide), ?_⟩
    have s4 : Same H (upd (upd H dp (.dK [])) dp (.dK (mergeK [] turnK))) := fun b u e => by
      rw [upd_ne (ne_of_none e hdp), upd_ne (ne_of_none e hdp)]
      exact e
    have ed : upd (upd H dp (.dK [])) dp (.dK (mergeK [] turnK)) dp = some (.dK (mergeK [] turnK)) := upd_same
    generalize upd (upd H dp (.dK [])) dp (.dK (mergeK [] turnK)) = H1 at s4 ed ⊢
    obtain ⟨_, ua, ea, nA, hA1, aA⟩ := at_tup hA
    cases ea
    have lua : ua.length = ss.length := by
      rw [aA.length, List.length_map]
    have hm1 := s4 _ _ hm
    refine ⟨_, rfl, _, rfl, ⟨_, SqT.of (s4 _ _ hA1)⟩, fun Dm hDm => ?_⟩
    refine lc_it (walk_tup (xs := ua)) (fun i H2 => Same H1 H2 ∧ ∃ vs, Bld m Dm H2 vs ((ss.take i).map fun sc => .tuple (scE (rdS sc)))) ?_ ?_ ?_ ?_
    · exact ⟨same_new hDm, [], Bld.start hm1 hDm⟩
    · exact fun i H2 _ q => SqT.of (q.1 _ _ (s4 _ _ hA1))
    · rintro i y H2 H3 hi ⟨sm, vs, bl⟩ ⟨rfl, er⟩
      obtain ⟨de, e1, ae⟩ := aA.get er
      rw [List.getElem?_map] at e1
      obtain ⟨sc, e2, rfl⟩ := Option.map_eq_some_iff.mp e1
      obtain ⟨ap, us, rfl, nap, hap, aap⟩ := at_tup ae
      obtain rfl := (at_words_any (z := m) (H' := H) aap).2
      have s5 : Same H H3 := Same.tr s4 sm
      have hm5 := s5 _ _ hm
      have l8 := (hok sc (List.mem_of_getElem? e2)).1
      refine ⟨rfl, ?_⟩
      refine ⟨_, rfl, _, rfl, ⟨_, SqT.of (s5 _ _ hap)⟩, fun Dw hDw => ?_⟩
      refine lc_it (walk_tup (xs := wV sc)) (fun j H4 => Same H3 H4 ∧ H4 Dw = some (.lst (wV (rdS (sc.take j))))) ?_ ?_ ?_ ?_
      · exact ⟨same_new hDw, upd_same⟩
      · exact fun j H4 _ q => SqT.of (q.1 _ _ (s5 _ _ hap))
      · rintro j y H4 H5 hj ⟨sw, hl⟩ ⟨rfl, ew⟩
        unfold wV at ew
        rw [List.getElem?_map] at ew
        obtain ⟨v, ev, rfl⟩ := Option.map_eq_some_iff.mp ew
        refine ⟨rfl, ?_⟩
        have hval : ∀ Qv : VK, Qv (.str (wS (rdW v))) H5 → Qv ((valV (mergeK [] turnK) (Sum.inr (wS v))).getD (.str (wS v))) H5 := fun Qv q => by
          rw [turn_get v]
          exact q
        refine ⟨_, rfl, rfl, _, rfl, ?_⟩
        by_cases hw : v = .wri
        · subst hw
          refine iteF ⟨sw, ?_⟩
          rw [take_succ' ev, rdS_app, show rdS [Wd.wri] = [] from rfl, List.append_nil]
          exact hl
        · have hne : (!decide (V.str (wS v) = V.str "write")) = true := by
            rw [show V.str "write" = V.str (wS .wri) from rfl, eqW, decide_eq_false hw]
            rfl
          rw [hne]
          have edd : H5 dp = some (.dK (mergeK [] turnK)) := sw _ _ (sm _ _ ed)
          refine iteT ⟨_, rfl, dp, rfl, .inl ⟨_, Rd.of edd⟩, _, rfl, _, rfl, _, DGet.k (k := Sum.inr (wS v)) edd, ?_⟩
          rw [turn_get v]
          refine ⟨_, hl, ?_, ?_, ?_⟩
          · unfold wV
            rw [List.length_map]
            exact small6 (Nat.lt_of_le_of_lt (Nat.le_trans (rdS_len _) (List.length_take_le' _ _)) (by omega))
          · intro b u e
            rw [upd_ne (ne_of_none e hDw)]
            exact sw _ _ e
          · have er' : rdS [v] = [rdW v] := by
              unfold rdS
              rw [List.filter_cons_of_pos (by rw [decide_eq_false hw]; rfl)]
              rfl
            rw [upd_same, take_succ' ev, rdS_app, er']
            unfold wV
            rw [List.map_append]
            rfl
      · rintro H4 ⟨sw, hl⟩
        rw [show (wV sc).length = sc.length from List.length_map _, List.take_length] at hl
        refine ⟨_, _, rfl, .inl ⟨SqL.of hl, fun p hp => ?_⟩⟩
        have s6 := Same.tr sw (same_new (o := HO.tup (wV (rdS sc))) hp)
        have bl6 := bl.same s6
        have np : p ≠ Dm := fun z => by
          rw [z, sw _ _ bl.2.1] at hp
          cases hp
        have npm : p ≠ m := fun z => by
          rw [z, sw _ _ hm5] at hp
          cases hp
        refine ⟨vs, bl6.2.1, ?_, ?_, vs ++ [.ref p], ?_⟩
        · rw [bl.len, List.length_map, List.length_take]
          exact small6 (by omega)
        · intro b u e
          rw [upd_ne (ne_of_none e hDm)]
          exact s6 _ _ (sm _ _ e)
        · rw [take_succ' e2, List.map_append]
          exact bl6.push (.tup npm upd_same (at_words _)) (.tup np upd_same (at_words _))
    · rintro H2 ⟨s2, vs, bl⟩
      have s5 : Same H H2 := Same.tr s4 s2
      rw [lua, List.take_length] at bl
      refine ⟨_, _, rfl, .inl ⟨SqL.of bl.2.1, fun q hq => ?_⟩⟩
      refine k q _ (Same.tr s5 (same_new hq)) ?_
      have := bl.tup (s5 _ _ hm) hq
      unfold scD
      rw [List.map_map]
      exact this
end
end C81

set_option Elab.async false
set_option maxRecDepth 100000
set_option maxHeartbeats 4000000
set_option linter.all false
namespace C81
open PySem L2 My M78

theorem rws_u {sc : List Wd} (h : sc.length ≤ 8) : ∀ x ∈ rws sc, x ∈ rowU := fun x hx => by
  obtain ⟨p, hp, hx⟩ := List.mem_flatMap.mp hx
  have hp := List.mem_range.mp hp
  have mk : ∀ (o r : Bool) (l : Nat), l < 5 → (⟨(p : Int), o, r, (l : Int)⟩ : Row) ∈ rowU := fun o r l hl => by
    refine List.mem_flatMap.mpr ⟨p, List.mem_range.mpr (by omega), List.mem_flatMap.mpr ⟨o, by cases o <;> simp, List.mem_flatMap.mpr ⟨r, by cases r <;> simp, List.mem_map.mpr ⟨l, List.mem_range.mpr hl, rfl⟩⟩⟩⟩
  by_cases c : (flg sc p).1 = true
  · rw [if_pos c] at hx
    obtain ⟨l, hl, rfl⟩ := List.mem_map.mp hx
    exact mk _ _ l (List.mem_range.mp hl)
  · rw [if_neg c] at hx
    rw [List.mem_singleton.mp hx]
    cases hr : (flg sc p).2
    · exact mk _ _ 0 (by decide)
    · exact mk _ _ 1 (by decide)
theorem rws_nd (sc : List Wd) : (rws sc).Nodup := by
  unfold rws
  rw [List.nodup_iff_pairwise_ne, List.pairwise_flatMap]
  refine ⟨fun p _ => ?_, ?_⟩
  · split
    · rw [List.pairwise_map]
      refine List.Pairwise.imp ?_ List.pairwise_lt_range
      intro a b hab e
      injection e with _ _ _ e
      omega
    · exact List.pairwise_singleton _ _
  · refine List.Pairwise.imp ?_ List.pairwise_lt_range
    intro a b hab x hx y hy e
    have px : x.p = (a : Int) := by
      split at hx
      · obtain ⟨l, _, rfl⟩ := List.mem_map.mp hx
        rfl
      · rw [List.mem_singleton.mp hx]
    have py : y.p = (b : Int) := by
      split at hy
      · obtain ⟨l, _, rfl⟩ := List.mem_map.mp hy
        rfl
      · rw [List.mem_singleton.mp hy]
    rw [e, py] at px
    omega
/-- the scripts that the law draws -/
def Sz (ss : List (List Wd)) : Prop := (ss.length ≤ 3 ∧ ∀ sc ∈ ss, sc.length ≤ 5) ∨ (ss.length ≤ 4 ∧ ∀ sc ∈ ss, sc.length ≤ 3)
theorem prodR_len {B : Nat} : ∀ {RS : List (List Row)}, (∀ R ∈ RS, R.length ≤ B) → (prodR RS).length ≤ B ^ RS.length
  | [], _ => Nat.le_refl _
  | R :: RS, h => by
    have ih := prodR_len (B := B) (RS := RS) fun S hS => h S (.tail _ hS)
    have e : (prodR (R :: RS)).length ≤ R.length * B ^ RS.length := flat_le fun x _ => by
      rw [List.length_map]
      exact ih
    refine Nat.le_trans e ?_
    rw [List.length_cons, Nat.pow_succ, Nat.mul_comm]
    exact Nat.mul_le_mul_left _ (h R (.head _))
theorem cbR_le {B : Nat} (hB : 1 ≤ B) : ∀ {RS : List (List Row)}, (∀ R ∈ RS, R.length ≤ B) → cbR RS ≤ B ^ (RS.length - 1) * 2
  | [], _ => by
    show 1 ≤ B ^ 0 * 2
    rw [Nat.pow_zero]
    decide
  | [R], _ => by
    show 2 ≤ B ^ 0 * 2
    rw [Nat.pow_zero]
    decide
  | R :: S :: RS, h => by
    have ih := cbR_le hB (RS := S :: RS) fun T hT => h T (.tail _ hT)
    have h1 := h R (.head _)
    show R.length * cbR (S :: RS) ≤ B ^ (RS.length + 1) * 2
    have ih : cbR (S :: RS) ≤ B ^ RS.length * 2 := ih
    refine Nat.le_trans (Nat.mul_le_mul h1 ih) ?_
    rw [Nat.pow_succ, ← Nat.mul_assoc, Nat.mul_comm B]
    exact Nat.le_refl _
theorem sz_rws {ss : List (List Wd)} (h : Sz ss) : cbR (ss.map rws) ≤ 8192 ∧ (prodR (ss.map rws)).length ≤ 65536 := by
  have lm : (ss.map rws).length = ss.length := List.length_map ..
  rcases h with ⟨hl, hs⟩ | ⟨hl, hs⟩
  · have hR : ∀ R ∈ ss.map rws, R.length ≤ 26 := fun R hR => by
      obtain ⟨sc, hsc, rfl⟩ := List.mem_map.mp hR
      have := rws_len sc
      have := hs sc hsc
      omega
    have h1 := cbR_le (by decide) hR
    have h2 := prodR_len hR
    rw [lm] at h1 h2
    have h3 : 26 ^ (ss.length - 1) ≤ 26 ^ 2 := Nat.pow_le_pow_right (by decide) (by omega)
    have h4 : 26 ^ ss.length ≤ 26 ^ 3 := Nat.pow_le_pow_right (by decide) hl
    have h5 : 26 ^ 2 = 676 := rfl
    have h6 : 26 ^ 3 = 17576 := rfl
    omega
  · have hR : ∀ R ∈ ss.map rws, R.length ≤ 16 := fun R hR => by
      obtain ⟨sc, hsc, rfl⟩ := List.mem_map.mp hR
      have := rws_len sc
      have := hs sc hsc
      omega
    have h1 := cbR_le (by decide) hR
    have h2 := prodR_len hR
    rw [lm] at h1 h2
    have h3 : 16 ^ (ss.length - 1) ≤ 16 ^ 3 := Nat.pow_le_pow_right (by decide) (by omega)
    have h4 : 16 ^ ss.length ≤ 16 ^ 4 := Nat.pow_le_pow_right (by decide) hl
    have h5 : 16 ^ 3 = 4096 := rfl
    have h6 : 16 ^ 4 = 65536 := rfl
    omega
theorem sz_ok {ss : List (List Wd)} (ok : Ok4 ss) : ∀ R ∈ ss.map rws, R.Nodup ∧ ∀ x ∈ R, x ∈ rowU := fun R hR => by
  obtain ⟨sc, hsc, rfl⟩ := List.mem_map.mp hR
  exact ⟨rws_nd sc, rws_u (ok.ok sc hsc).1⟩
theorem pull_sk : ∀ {l : List NestedKey} {P : List Row → Prop}, (∀ k ∈ l, ∃ xs, k = sk xs ∧ P xs) → ∃ js : List (List Row), l = js.map sk ∧ ∀ xs ∈ js, P xs
  | [], _, _ => ⟨[], rfl, fun _ h => nomatch h⟩
  | k :: l, P, h => by
    obtain ⟨xs, e, p⟩ := h k (.head _)
    obtain ⟨js, e2, p2⟩ := pull_sk (l := l) (P := P) fun k hk => h k (.tail _ hk)
    refine ⟨xs :: js, by rw [e, e2]; rfl, fun y hy => ?_⟩
    rcases List.mem_cons.mp hy with rfl | hy
    · exact p
    · exact p2 y hy
theorem few_of {w : World} {ss : List (List Wd)} (ok : Ok4 ss) (sz : Sz ss) {fs : List (List Row)} (hf : ∀ xs ∈ fs, SI ss xs) : FewN w (fs.map sk) := fun l h nd hl => by
  obtain ⟨js, rfl, hj⟩ := pull_sk (l := l) (P := fun xs => SI ss xs ∧ (sk xs).hash w = h) fun k hk => by
    obtain ⟨h1, h2⟩ := hl k hk
    obtain ⟨xs, hx, rfl⟩ := List.mem_map.mp h1
    exact ⟨xs, rfl, hf xs hx, h2⟩
  have ndj : js.Nodup := by
    rw [List.nodup_iff_pairwise_ne, List.pairwise_map] at nd
    rw [List.nodup_iff_pairwise_ne]
    exact nd.imp fun hab e => hab (by rw [e])
  have hne : ss.map rws ≠ [] := fun z => by
    have := ok.l1
    rw [List.map_eq_nil_iff.mp z] at this
    exact absurd this (by decide)
  have := nodup_le (m := (prodR (ss.map rws)).filter (hitR h ss.length 2870177450012600261)) ndj fun xs hx => by
    obtain ⟨h1, h2⟩ := hj xs hx
    refine List.mem_filter.mpr ⟨prodR_mem h1, decide_eq_true ?_⟩
    rw [← h2, sk_hash, paired_len h1]
  have h2 := cnt_hit h ss.length (ss.map rws) (sz_ok ok) hne 2870177450012600261
  have h3 := (sz_rws sz).1
  rw [List.length_map]
  omega
theorem bfs_few {ss : List (List Wd)} {tr : Bool} (ok : Ok4 ss) (sz : Sz ss) (N : Nat) : (bfs ss tr N).length ≤ 65536 := by
  have inv := bfs_inv (tr := tr) ok.ok N
  have := nodup_le (m := prodR (ss.map rws)) inv.nodup fun xs hx => by
    obtain ⟨e, he, rfl⟩ := List.mem_map.mp hx
    exact prodR_mem (inv.si e he)
  have h3 := (sz_rws sz).2
  rw [List.length_map] at this
  omega
theorem SI.elt {ss : List (List Wd)} {xs : List Row} (ok : Ok4 ss) (h : SI ss xs) : Elt (stD xs) := by
  have hl := paired_len h
  have l4 := ok.l4
  refine elt_st (by omega) fun r hr => ?_
  have := h.bnd' ok.ok r hr
  exact decide_eq_true ⟨by omega, by omega, by omega, by omega⟩
theorem SI.good {ss : List (List Wd)} {xs : List Row} (ok : Ok4 ss) (h : SI ss xs) : xs.all goodR = true := List.all_eq_true.mpr fun r hr => by
  have := h.bnd' ok.ok r hr
  unfold goodR
  rw [Bool.and_eq_true_iff]
  exact ⟨decide_eq_true ⟨by omega, by omega⟩, decide_eq_true ⟨by omega, by omega⟩⟩
theorem fit_elts {N : Nat} {ds : List PyData} (hl : ds.length ≤ N) (h : ∀ d ∈ ds, Elt d) : Fit N (.list ds) := by
  refine ⟨?_, ?_, fun hl => (by cases hl), fun es s => ?_⟩
  · simp only [PyData.showable]
    exact showableAll_of fun e he => (h e he).sh
  · simp only [PyData.depth]
    have := depthAll_le (n := 3) (ds := ds) fun e he => (h e he).dp
    omega
  · obtain rfl := sq2_fun (Or.inl rfl) s
    exact ⟨hl, fun e he => (h e he).wt⟩
/-- from each its data, all of them -/
theorem ax_pull {m : Addr} {H : Hp} {P : PyData → Prop} : ∀ {us : List V}, (∀ v ∈ us, ∃ d, P d ∧ Ax m H v d) → ∃ ds, AxAll m H us ds ∧ ∀ d ∈ ds, P d
  | [], _ => ⟨[], .nil, fun _ h => nomatch h⟩
  | v :: us, h => by
    obtain ⟨d, p, a⟩ := h v (.head _)
    obtain ⟨ds, a2, p2⟩ := ax_pull (us := us) fun u hu => h u (.tail _ hu)
    refine ⟨d :: ds, .cons a a2, fun e he => ?_⟩
    rcases List.mem_cons.mp he with rfl | he
    · exact p
    · exact p2 e he
theorem ax_back {m : Addr} {H : Hp} {P : PyData → Prop} {us : List V} {ds : List PyData} (h : AxAll m H us ds) (p : ∀ d ∈ ds, P d) : ∀ v ∈ us, ∃ d, P d ∧ Ax m H v d := fun v hv => by
  obtain ⟨i, hi, e⟩ := List.getElem_of_mem hv
  obtain ⟨d, hd, a⟩ := h.get (i := i) (v := v) (by rw [List.getElem?_eq_getElem hi, e])
  exact ⟨d, p d (List.mem_of_getElem? hd), a⟩
/-! the law's own look at an order's ends -/
theorem cut_last {us : List V} : cutV us (some (-1)) none = us.drop (us.length - 1) := by
  unfold cutV
  have e : HT.sIx us.length 0 (some (-1)) = us.length - 1 := by
    show (if (-1 : Int) < 0 then ((-1 : Int) + (us.length : Int)).toNat else min (-1 : Int).toNat us.length) = _
    rw [if_pos (by decide)]
    omega
  rw [e, HT.sIx_none, List.take_of_length_le (by rw [List.length_drop]; exact Nat.le_refl _)]
theorem cut_front {us : List V} : cutV us none (some (-1)) = us.take (us.length - 1) := by
  unfold cutV
  have e : HT.sIx us.length us.length (some (-1)) = us.length - 1 := by
    show (if (-1 : Int) < 0 then ((-1 : Int) + (us.length : Int)).toNat else min (-1 : Int).toNat us.length) = _
    rw [if_pos (by decide)]
    omega
  rw [e, HT.sIx_none, List.drop_zero, Nat.sub_zero]
theorem inV_true (l : List Bool) : inV (.bl true) (l.map V.bl) = l.contains true := by
  unfold inV
  rw [List.any_map, Bool.eq_iff_iff, List.any_eq_true, List.contains_iff_mem]
  constructor
  · rintro ⟨x, hx, e⟩
    have e : (x == true) = true := e
    cases x
    · cases e
    · exact hx
  · exact fun h => ⟨true, h, rfl⟩
theorem flat_bools (l : List Bool) : (l.map V.bl).all flatV = true := List.all_eq_true.mpr fun x hx => by
  obtain ⟨k, _, rfl⟩ := List.mem_map.mp hx
  rfl
theorem drop_bools (l : List Bool) (n : Nat) : (l.map V.bl).drop n = (l.drop n).map V.bl := (List.map_drop ..).symm
theorem take_bools (l : List Bool) (n : Nat) : (l.map V.bl).take n = (l.take n).map V.bl := (List.map_take ..).symm
theorem shaped_sts {ls : List (List Row)} : SeqAt.shaped (.list (ls.map stD)) = true := by
  have h1 : PyData.canLayAll0 (ls.map stD) = true := by
    induction ls with
    | nil => rfl
    | cons x r ih =>
      show (PyData.canLay0 (stD x) && PyData.canLayAll0 (r.map stD)) = true
      have h := shaped_st (xs := x)
      unfold SeqAt.shaped at h
      rw [ih, (Bool.and_eq_true_iff.mp h).1]
      rfl
  have h2 : PyData.depthAll (ls.map stD) ≤ 2 := depthAll_le fun e he => by
    obtain ⟨x, hx, rfl⟩ := List.mem_map.mp he
    unfold stD
    simp only [PyData.depth]
    have := depthAll_le (n := 1) (ds := x.map rowD) fun e he => by
      obtain ⟨r, _, rfl⟩ := List.mem_map.mp he
      exact Nat.le_refl _
    omega
  unfold SeqAt.shaped
  rw [Bool.and_eq_true_iff]
  refine ⟨?_, decide_eq_true ?_⟩
  · simpa only [PyData.canLay0] using h1
  · simp only [PyData.depth]
    omega
theorem eqv_sts_e (ls : List (List Row)) : PyData.eqv (.list (ls.map stD)) (.list []) = ls.isEmpty := by
  cases ls <;> rfl
end C81

set_option Elab.async false
set_option maxRecDepth 100000
set_option maxHeartbeats 4000000
set_option linter.all false
namespace C81
open PySem L2 My M78
abbrev sLaw : Stmt := top 61
abbrev nLaw : List Str := ["_law_script_here", "_law_state", "_law_turn", "_law_some", "_law_handed_here", "_law_k", "_law_order", "_law_kept", "_law_told", "_law_due", "_law_found", "_law_tries", "_law_bad", "_law_states", "_law_again", "_law_ask", "_law_here"]
theorem scLaw : FnScope nLaw ["_law_script_here"] (defScope sLaw) := ⟨rfl, rfl, rfl, by decide +kernel, rfl, by decide +kernel, by decide +kernel⟩

theorem Hnd.tup {ds : List PyData} {d : PyData} (h : Hnd (.tuple ds) d) : ∃ es, Sq2 d es ∧ HndAll ds es := by
  cases h with
  | leaf l => cases l
  | seq s s' q =>
    rcases s with z | z
    · cases z
    · cases z
      exact ⟨_, s', q⟩
theorem Hnd.leaf_eq {d d' : PyData} (h : Hnd d d') (l : lt2 d = false) : d' = d := by
  cases h with
  | leaf _ => rfl
  | seq s s' q =>
    rcases s with rfl | rfl <;> cases l
theorem HndAll.words : ∀ {sc : List Wd} {es : List PyData}, HndAll (scE sc) es → es = scE sc
  | [], _, .nil => rfl
  | v :: r, _, .cons h q => by
    rw [Hnd.leaf_eq h rfl, HndAll.words (sc := r) q]
    rfl
theorem HndAll.scripts : ∀ {ss : List (List Wd)} {es : List PyData}, HndAll (ss.map fun sc => .tuple (scE sc)) es → Paired (fun sc e => Sq2 e (scE sc)) ss es
  | [], _, .nil => .nil
  | sc :: r, _, .cons h q => by
    obtain ⟨es, s, a⟩ := h.tup
    rw [a.words] at s
    exact .cons s (HndAll.scripts (ss := r) q)
theorem Hnd.scripts {ss : List (List Wd)} {d : PyData} (h : Hnd (scD ss) d) : ScIn ss d := by
  obtain ⟨es, s, a⟩ := Hnd.tup (ds := ss.map fun sc => .tuple (scE sc)) h
  exact ⟨es, s, a.scripts⟩
theorem lev_scripts {ss : List (List Wd)} (h : ss.length ≤ 4) (ok : ∀ sc ∈ ss, okScr sc) : Lev 2 (scD ss) := .tup (by rw [List.length_map]; omega) fun x hx => by
  obtain ⟨sc, hsc, rfl⟩ := List.mem_map.mp hx
  have := (ok sc hsc).1
  refine .tup (by rw [List.length_map]; omega) fun y hy => ?_
  obtain ⟨v, _, rfl⟩ := List.mem_map.mp hy
  exact .str _ _
def natD (ws : List Nat) : List PyData := ws.map fun k : Nat => .int (k : Int)
theorem at_nats {m : Addr} {H : Hp} : ∀ ws : List Nat, AtAll m H (ws.map fun k : Nat => V.int (k : Int)) (natD ws)
  | [] => .nil
  | k :: r => .cons (.int _) (at_nats r)
theorem shaped_nats (ws : List Nat) : SeqAt.shaped (.list (natD ws)) = true := by
  have h1 : PyData.canLayAll0 (natD ws) = true := by
    induction ws with
    | nil => rfl
    | cons k r ih =>
      show (PyData.canLay0 (.int (k : Int)) && PyData.canLayAll0 (natD r)) = true
      rw [ih]
      rfl
  have h2 : PyData.depthAll (natD ws) = 0 := by
    induction ws with
    | nil => rfl
    | cons k r ih =>
      have ih2 := ih (by
        have : (PyData.canLay0 (.int (k : Int)) && PyData.canLayAll0 (natD r)) = true := h1
        exact (Bool.and_eq_true_iff.mp this).2)
      show max (PyData.depth (.int (k : Int))) (PyData.depthAll (natD r)) = 0
      rw [ih2]
      rfl
  unfold SeqAt.shaped
  rw [Bool.and_eq_true_iff]
  refine ⟨?_, decide_eq_true ?_⟩
  · simpa only [PyData.canLay0] using h1
  · simp only [PyData.depth]
    rw [h2]
    decide
theorem eqv_nats (ws : List Nat) : PyData.eqv (.list (natD ws)) (.list []) = ws.isEmpty := by
  cases ws with
  | nil => rfl
  | cons k r => rfl
structure Tw (mg : Str → Option Value) : Prop where
  range : mg "range" = none
  repr : mg "repr" = none
theorem lev_bools (l : List Bool) (h : l.length ≤ 5000000 := by decide) : Lev 4 (.list (boolD l)) := .lst (by unfold boolD; rw [List.length_map]; exact h) fun x hx => by
  obtain ⟨b, _, rfl⟩ := List.mem_map.mp hx
  exact .bl _ _
/-- what stands in a turn -/
structure Stn (st c A Hd : Addr) (ns : List Int) (ss : List (List Wd)) (dH : PyData) (H : Hp) : Prop where
  dr : Drw H st c ns
  tA : Tp H (.ref A) (scD ss)
  aH : At st H (.ref Hd) dH
section
variable {st c A Hd : Addr} {ns : List Int} {ss : List (List Wd)} {dH : PyData} {H H' : Hp}
theorem Stn.but (h : Stn st c A Hd ns ss dH H) (b : But st H H') (d : Drw H' st c ns) : Stn st c A Hd ns ss dH H' := ⟨d, h.tA.mono (h.dr.kt b), h.aH.mono b⟩
theorem Stn.same (h : Stn st c A Hd ns ss dH H) (s : Same H H') : Stn st c A Hd ns ss dH H' := h.but (Same.but s) (h.dr.same s)
/-- what the law was told of an order -/
def Tld (ss : List (List Wd)) (d : PyData) (H : Hp) (t : V) : Prop := (∃ (p : List Row × List Bool) (q B L : Addr), wkD ss d = some p ∧ t = .ref q ∧ H q = some (.tup [.ref B, .ref L]) ∧ Tp H (.ref B) (stD p.1) ∧ H L = some (.lst (p.2.map V.bl))) ∨ (wkD ss d = none ∧ t = .non)
end
/-- the bad ones of the states -/
def badS (ss : List (List Wd)) (tr : Bool) (ls : List (List Row)) : List (List Row) := ls.filter fun xs => if tr = true then stk ss xs else rfd ss xs
theorem all_bad {α : Type} (f : α → Bool) : ∀ (l : List α) , (l.all fun x => !f x) = (l.filter f).isEmpty
  | [] => rfl
  | x :: r => by
    rw [List.all_cons, List.filter_cons, all_bad f r]
    cases f x <;> rfl
theorem all_badN (f : List Row → Bool) (es : List Nd) : (es.all fun e => !f e.s) = ((es.map Nd.s).filter f).isEmpty := by
  rw [← all_bad f (es.map Nd.s), List.all_map]
  rfl
/-- what stands where lists of states are drawn -/
structure Rcd (P : Program) (w : World) (st c A Hd : Addr) (ns : List Int) (ss : List (List Wd)) (dH : PyData) (Fd : Addr) (bs : List BE) (tp Lb : Addr) (vs : List V) (bad : List (List Row)) (H : Hp) : Prop where
  tr : Stn st c A Hd ns ss dH H
  sd : Sd P w H Fd bs
  tup : H tp = some (.tup [.bl false, .bl true])
  lb : H Lb = some (.lst vs)
  tv : TpAll H vs (bad.map stD)
section
variable {P : Program} {w : World} {st c A Hd Fd tp Lb : Addr} {ns : List Int} {ss : List (List Wd)} {dH : PyData} {bs : List BE} {vs : List V} {bad : List (List Row)} {H H' : Hp}
theorem Rcd.but (h : Rcd P w st c A Hd ns ss dH Fd bs tp Lb vs bad H) (n1 : Fd ≠ st) (n2 : Lb ≠ st) (b : But st H H') (d : Drw H' st c ns) : Rcd P w st c A Hd ns ss dH Fd bs tp Lb vs bad H' :=
  ⟨h.tr.but b d, h.sd.mono (b _ _ h.sd.dict n1) (h.tr.dr.kt b), h.tr.dr.kt b _ _ h.tup, b _ _ h.lb n2, h.tv.mono (h.tr.dr.kt b)⟩
theorem Rcd.same (h : Rcd P w st c A Hd ns ss dH Fd bs tp Lb vs bad H) (s : Same H H') : Rcd P w st c A Hd ns ss dH Fd bs tp Lb vs bad H' :=
  ⟨h.tr.same s, h.sd.same s, s _ _ h.tup, s _ _ h.lb, h.tv.mono (.same s)⟩
end
/-- a drawn list of states, or something odd -/
def StL (N : Nat) (d : PyData) : Prop := d ∈ oddL ∨ ∃ ds, d = .list ds ∧ ds.length ≤ N ∧ ∀ e ∈ ds, Elt e
theorem StL.mono {N M : Nat} {d : PyData} (h : StL N d) (l : N ≤ M) : StL M d := h.imp id fun ⟨ds, e, h1, h2⟩ => ⟨ds, e, Nat.le_trans h1 l, h2⟩
theorem StL.elts {N : Nat} {ds : List PyData} (h : StL N (.list ds)) (hN : 1 ≤ N) : ds.length ≤ N ∧ ∀ e ∈ ds, Elt e := by
  rcases h with h | ⟨es, e, h1, h2⟩
  · obtain ⟨h1, h2⟩ := odd_list h
    exact ⟨by omega, h2⟩
  · cases e
    exact ⟨by omega, h2⟩
theorem StL.fit {N : Nat} {d : PyData} (h : StL N d) (hN : N ≤ 65600) : Fit 65600 d := by
  rcases h with h | ⟨ds, rfl, h1, h2⟩
  · exact (odd_fit h).mono (by decide)
  · exact (fit_elts h1 h2).mono hN
theorem isLs_some {d : PyData} (h : isLs d = true) : ∃ ds, d = .list ds := by
  cases d <;> first | exact ⟨_, rfl⟩ | cases h
theorem ax_lst {m : Addr} {H : Hp} {v : V} {ds : List PyData} (h : Ax m H v (.list ds)) : ∃ a us, v = .ref a ∧ a ≠ m ∧ H a = some (.lst us) ∧ AxAll m H us ds := by
  cases h with
  | lst n e q => exact ⟨_, _, rfl, n, e, q⟩
theorem TpAll.at_ {H : Hp} {m : Addr} (n : NoT H m) {vs : List V} {ds : List PyData} (h : TpAll H vs ds) : AtAll m H vs ds := TpAll.at n h
section
variable {P : Program} {w : World} {K : PySem.W.Frag} {mg : Str → Option Value} {base : Heap}

def spLaw (K : PySem.W.Frag) : Sp := fun vs H Q _ => ∃ (a : Addr) (ns : List Int), vs = [.ref a] ∧ SqL K H a (ns.map V.int) ∧ ns.length ≤ 63 ∧ ∀ H', Q (.bl true) H'
theorem ok_law {f : Addr} {fd : FuncData} (F : Fun K "law" "law" sLaw f fd) (T : Ty mg) (T1 : Tw mg)
    (PF : Pr P w K mg base 1 "_law_fresh" ["_law_script_here"] (spFresh K)) (PT : Pr P w K mg base 2 "_law_take" ["_law_state", "_law_many"] spTake) (PSc : Pr P w K mg base 5 "_law_scripts" ["_law_state", "_law_most", "_law_many"] spScripts)
    (PRd : Pr P w K mg base 1 "_law_readers" ["_law_scripts_here"] spRdr) (PH : Pr P w K mg base 5 "_law_handed" ["_law_state", "_law_thing"] (spHanded 2)) (PHX : Pr P w K mg base 7 "_law_handed" ["_law_state", "_law_thing"] (spHandedX 4))
    (PDo : Pr P w K mg base 5 "_law_drawn_order" ["_law_state", "_law_scripts_here", "_law_refused_here"] spDro) (PBo : Pr P w K mg base 4 "_law_bent_order" ["_law_state", "_law_order"] spBo) (PWl : Pr P w K mg base 5 "_law_walked" ["_law_scripts_here", "_law_order"] spWlk)
    (PLs : Pr P w K mg base 5 "_law_is_stuck" ["_law_scripts_here", "_law_here"] spIss) (PIO : Pr P w K mg base 5 "is_order" ["scripts", "order"] spIsO) (PIS : Pr P w K mg base 6 "is_stuck" ["scripts", "order"] spIsS) (PS4 : Pr P w K mg base 5 "_law_same" ["_law_found", "_law_due"] (spSame 4))
    (PRc : Pr P w K mg base 5 "_law_reached" ["_law_scripts_here", "_law_tries"] (spRch P w)) (PAn : Pr P w K mg base 5 "_law_any_refused" ["_law_scripts_here", "_law_here"] spAny) (PBt : Pr P w K mg base 5 "_law_bent_states" ["_law_state", "_law_states"] spBst)
    (PAr : Pr P w K mg base 2 "_law_are_all" ["_law_found", "_law_states"] (spAre P w)) (PNv : Pr P w K mg base 6 "is_never" ["scripts", "states"] spNev) (PFr : Pr P w K mg base 7 "is_free" ["scripts", "states"] spFre) : FnG P w K mg base 8 f fd ["_law_script_here"] (spLaw K) := by
  refine Fun.okG F scLaw (fun vs H Q E h => ?_) (fun cdv Ar outer s H vs Q E hgd hr h => ?_)
  · obtain ⟨a, ns, rfl, _⟩ := h
    rfl
  · obtain ⟨a, ns, rfl, hS, hlen, k⟩ := h
    have nd := scLaw.nd
    have hr1 := hr.mono (show 1 ≤ 7 by decide)
    have hr2 := hr.mono (show 2 ≤ 7 by decide)
    have hr4 := hr.mono (show 4 ≤ 7 by decide)
    have hr5 := hr.mono (show 5 ≤ 7 by decide)
    have hr6 := hr.mono (show 6 ≤ 7 by decide)
    obtain ⟨fN, fdN, FN, gN, kpN, bN⟩ := PNv
    obtain ⟨fF, fdF, FF, gF, kpF, bF⟩ := PFr
    obtain ⟨SA, hSA⟩ : ∃ SA : Addr → Sp → Prop, SA = fun g sp => (g = fF ∧ sp = spFre) ∨ (g = fN ∧ sp = spNev) := ⟨_, rfl⟩
    have hHeld : ∀ g sp, SA g sp → Held P w K mg base 7 g sp := fun g sp hg => by
      subst hSA
      rcases hg with ⟨rfl, rfl⟩ | ⟨rfl, rfl⟩
      · exact ⟨fdF, _, FF, kpF, bF⟩
      · exact ⟨fdN, _, FN.mono (by decide), kpN, bN⟩
    have hSF : SA fF spFre := by
      rw [hSA]
      exact .inl ⟨rfl, rfl⟩
    have hSN : SA fN spNev := by
      rw [hSA]
      exact .inr ⟨rfl, rfl⟩
    refine ⟨_, (pss_cons (ps_asg (pe_callP PF hr1 (by rfl) (pa_cons (pv 0) pa_nil)) (pg_name (i := 1) nd rfl (Or.inl rfl)))
      (pss_cons (ps_for PassesOwn.never rfl (pi_range1 rfl T1.range (pa_cons pe_int pa_nil)) (pg_name (i := 2) nd rfl (Or.inl rfl))
        (pss_cons (ps_asg (pe_callP PSc hr5 (by rfl) (pa_cons (pv 1) (pa_cons (pe_ix ix_tup (pe_tup (pa_cons pe_int (pa_cons pe_int (pa_cons pe_int pa_nil)))) (pv 2) (fun _ _ => rfl)) (pa_cons (pe_ix ix_tup (pe_tup (pa_cons pe_int (pa_cons pe_int (pa_cons pe_int pa_nil)))) (pv 2) (fun _ _ => rfl)) pa_nil)))) (pg_name (i := 3) nd rfl (Or.inr rfl)))
        (Evl.pss_cut (ps_if (pt_cmpR op_eq (pv 2) pe_int (nomark _))
          (pss_one (ps_asg (pe_callP PRd hr1 (by rfl) (pa_cons (pv 3) pa_nil)) (pg_name (i := 3) nd rfl (Or.inr rfl))))
          pss_nil)
        (pss_cons (ps_asg (pe_callP PH hr5 (by rfl) (pa_cons (pv 1) (pa_cons (pv 3) pa_nil))) (pg_name (i := 4) nd rfl (Or.inl rfl)))
        (pss_cons (ps_for PassesOwn.never rfl (pi_range1 rfl T1.range (pa_cons pe_int pa_nil)) (pg_name (i := 5) nd rfl (Or.inl rfl))
          (pss_cons (ps_asg (pe_callP PDo hr5 (by rfl) (pa_cons (pv 1) (pa_cons (pv 3) (pa_cons (pe_cmpR op_eq (pe_op op_modN (pe_callTy call_int1 (by rfl) T.int (by decide +kernel) (pa_cons (pv 5) pa_nil)) pe_int) pe_int (nomark _)) pa_nil)))) (pg_name (i := 6) nd rfl (Or.inl rfl)))
          (Evl.pss_cut (ps_if (pt_cmpR op_eq (pe_callP PT hr2 (by rfl) (pa_cons (pv 1) (pa_cons pe_int pa_nil))) pe_int (nomark _))
            (pss_one (ps_asg (pe_callP PBo hr4 (by rfl) (pa_cons (pv 1) (pa_cons (pv 6) pa_nil))) (pg_name (i := 6) nd rfl (Or.inl rfl))))
            pss_nil)
          (pss_cons (ps_asg (pe_callP PHX hr (by rfl) (pa_cons (pv 1) (pa_cons (pv 6) pa_nil))) (pg_name (i := 6) nd rfl (Or.inl rfl)))
          (Evl.pss_cut (ps_par (by rfl) nd (i := 7) (j := 8) rfl rfl (by decide) rfl rfl (pa_cons (pe_callB (call_reprX hgd hr.units) (by rfl) T1.repr (by decide +kernel) (pa_cons (pv 6) pa_nil)) (pa_cons (pe_callP PWl hr5 (by rfl) (pa_cons (pv 3) (pa_cons (pv 6) pa_nil))) pa_nil)) (by rfl))
          (Evl.pss_cut (ps_asg (pe_lst (pa_cons (pe_and (pe_cmpR op_notN (pv 8) pe_non (nomark _)) (pe_and (pe_cmpR (op_eqD hr.units) (pe_slice sl_list (pe_ix ix_tup (pv 8) pe_int (fun _ _ => rfl)) (po_some (pe_un un_neg pe_int)) po_none) (pe_lst (pa_cons pe_bl pa_nil)) (nomark _)) (pe_one (pe_cmpR op_notIn_seq pe_bl (pe_slice sl_list (pe_ix ix_tup (pv 8) pe_int (fun _ _ => rfl)) po_none (po_some (pe_un un_neg pe_int))) (by rfl))))) pa_nil)) (pg_name (i := 9) nd rfl (Or.inl rfl)))
          (Evl.pss_cut (ps_expr (pe_bm PySem.F.plainAttrs_list PySem.F.slot_list_append PySem.F.type_list_append mt_append (pv 9) (pa_cons (pe_and (pe_cmpR op_notN (pv 8) pe_non (nomark _)) (pe_one (pe_callP PLs hr5 (by rfl) (pa_cons (pv 3) (pa_cons (pe_ix ix_tup (pv 8) pe_int (fun _ _ => rfl)) pa_nil))))) pa_nil)))
          (pss_cons (ps_asg (pe_lst (pa_cons (pe_callP PIO hr5 (by rfl) (pa_cons (pv 4) (pa_cons (pv 6) pa_nil))) (pa_cons (pe_callP PIS hr6 (by rfl) (pa_cons (pv 4) (pa_cons (pv 6) pa_nil))) pa_nil))) (pg_name (i := 10) nd rfl (Or.inl rfl)))
          (pss_one (ps_if (PW.pt (pw_or (pt_not (pt_val (pe_callP PS4 hr5 (by rfl) (pa_cons (pv 10) (pa_cons (pv 9) pa_nil))))) (pw_or1 (pt_cmpR op_ne (pe_callB (call_reprX hgd hr.units) (by rfl) T1.repr (by decide +kernel) (pa_cons (pv 6) pa_nil)) (pv 7) (nomark _)))))
            (pss_one (ps_ret pe_bl))
            pss_nil))))))))))
        (pss_one (ps_for PassesOwn.never rfl (pi_tup (pe_tup (pa_cons pe_bl (pa_cons pe_bl pa_nil)))) (pg_name (i := 11) nd rfl (Or.inl rfl))
          (pss_cons (ps_asg (pe_callP PRc hr5 (by rfl) (pa_cons (pv 3) (pa_cons (pv 11) pa_nil))) (pg_name (i := 10) nd rfl (Or.inl rfl)))
          (pss_cons (ps_lock (ps_setLc (i := 12) (own := [("_law_here", 16)]) (g := gName 16) (tt := tB (tCall spAny [] E0 (tCons (tVar 3) (tCons (tVar 16) tNil)))) (te := tVar 16) (by rfl) nd rfl rfl (sw_true rfl rfl rfl (by decide +kernel)) (pi_keysN (pv 10))
  (blkOk_by (own := [("_law_here", 16)]) (N := nLaw) (sc := defScope sLaw) (by decide +kernel))
  (fun _ _ _ _ _ => pg_name (i := 16) nd rfl (Or.inl rfl) (Or.inr rfl)) (fun _ _ _ _ _ => pts_one (pt_val (pe_callP PAn hr5 (by rfl) (pa_cons (pv 3) (pa_cons (pv 16) pa_nil)))))
  (fun _ _ _ _ _ => (pv 16))))
          (Evl.pss_cut (ps_if (pt_val (pv 11))
            (pss_one (ps_lock (ps_setLc (i := 12) (own := [("_law_here", 16)]) (g := gName 16) (tt := tB (tCall spIss [] E0 (tCons (tVar 3) (tCons (tVar 16) tNil)))) (te := tVar 16) (by rfl) nd rfl rfl (sw_true rfl rfl rfl (by decide +kernel)) (pi_keysN (pv 10))
  (blkOk_by (own := [("_law_here", 16)]) (N := nLaw) (sc := defScope sLaw) (by decide +kernel))
  (fun _ _ _ _ _ => pg_name (i := 16) nd rfl (Or.inl rfl) (Or.inr rfl)) (fun _ _ _ _ _ => pts_one (pt_val (pe_callP PLs hr5 (by rfl) (pa_cons (pv 3) (pa_cons (pv 16) pa_nil)))))
  (fun _ _ _ _ _ => (pv 16)))))
            pss_nil)
          (pss_one (ps_for PassesOwn.never rfl (pi_range1 rfl T1.range (pa_cons pe_int pa_nil)) (pg_name (i := 5) nd rfl (Or.inl rfl))
            (pss_cons (ps_asg (pe_callTy (call_listN rfl) (by rfl) T.list (by decide +kernel) (pa_cons (pv 10) pa_nil)) (pg_name (i := 13) nd rfl (Or.inl rfl)))
            (pss_cons (ps_for PassesOwn.never rfl (pi_range1 rfl T1.range (pa_cons (pe_callP PT hr2 (by rfl) (pa_cons (pv 1) (pa_cons pe_int pa_nil))) pa_nil)) (pg_name (i := 14) nd rfl (Or.inl rfl))
              (pss_one (ps_asg (pe_ifExp (PW.pt (pw_and (pt_val (pe_callB call_isi (by rfl) T.isinstance (by decide +kernel) (pa_cons (pv 13) (pa_cons (pe_bltn (v := .ty "list") (by rfl) T.list (by decide +kernel) rfl) pa_nil)))) (pw_and1 (pt_cmpR (op_neE hr.units) (pv 13) (pe_lst pa_nil) (nomark _))))) (pe_callP PBt hr5 (by rfl) (pa_cons (pv 1) (pa_cons (pv 13) pa_nil))) (pv 13)) (pg_name (i := 13) nd rfl (Or.inl rfl)))))
            (pss_cons (ps_asg (pe_callP PHX hr (by rfl) (pa_cons (pv 1) (pa_cons (pv 13) pa_nil))) (pg_name (i := 13) nd rfl (Or.inl rfl)))
            (Evl.pss_cut (ps_par (by rfl) nd (i := 7) (j := 15) rfl rfl (by decide) rfl rfl (pa_cons (pe_callB (call_reprX hgd hr.units) (by rfl) T1.repr (by decide +kernel) (pa_cons (pv 13) pa_nil)) (pa_cons (pe_ifExp (pt_val (pv 11)) (pe_gR rfl gF) (pe_gR rfl gN)) pa_nil)) (by rfl))
            (Evl.pss_cut (ps_asg (pe_and (pe_cmpR (op_eqD hr.units) (pv 12) (pe_lst pa_nil) (nomark _)) (pe_one (pe_callP PAr hr2 (by rfl) (pa_cons (pv 10) (pa_cons (pv 13) pa_nil))))) (pg_name (i := 9) nd rfl (Or.inl rfl)))
            (pss_one (ps_if (PW.pt (pw_or (pt_not (pt_val (pe_callP PS4 hr5 (by rfl) (pa_cons (pe_callR (S := SA) (i := 15) hHeld hr rfl (by first | exact .inl rfl | exact .inr (.inl rfl) | exact .inr (.inr rfl)) (pa_cons (pv 4) (pa_cons (pv 13) pa_nil))) (pa_cons (pv 9) pa_nil))))) (pw_or1 (pt_cmpR op_ne (pe_callB (call_reprX hgd hr.units) (by rfl) T1.repr (by decide +kernel) (pa_cons (pv 13) pa_nil)) (pv 7) (nomark _)))))
              (pss_one (ps_ret pe_bl))
              pss_nil)))))))))))))))))))
      (pss_one (ps_ret pe_bl)))), ?_⟩
    refine ⟨_, rfl, a, ns, rfl, hS, hlen, fun st c' H1 nst nc dr sm => ?_⟩
    refine ⟨_, rfl, by decide, by decide, ?_⟩
    refine for_range (fun i σ H2 => (∃ o2 o3 o4 o5 o6 o7 o8 o9 o10 o11 o12 o13 o14 o15 o16, σ = [some (.ref a), some (.ref st), o2, o3, o4, o5, o6, o7, o8, o9, o10, o11, o12, o13, o14, o15, o16]) ∧ Drw H2 st c' ns) ⟨⟨_, _, _, _, _, _, _, _, _, _, _, _, _, _, _, rfl⟩, dr⟩ ?_ ?_
    · rintro i σ H2 hi ⟨⟨o2, o3, o4, o5, o6, o7, o8, o9, o10, o11, o12, o13, o14, o15, o16, rfl⟩, d2⟩
      have hi3 : i < 3 := hi
      -- scripts
      refine ⟨_, rfl, (by show 3 ≤ sizeLine; decide), fun p1 np1 => ?_⟩
      generalize hp1 : upd H2 p1 _ = H3
      have sp1 : Same H2 H3 := hp1 ▸ Same.new np1
      have ep1 : H3 p1 = some (.tup [.int 3, .int 4, .int 3]) := hp1 ▸ upd_same
      clear hp1
      obtain ⟨most, many, hat1, hat2, hmost, hmost4, hmany, hsz⟩ : ∃ (most many : Nat), atI [V.int 3, .int 4, .int 3] (0 + (i : Int)) = some (.int (most : Int)) ∧ atI [V.int 5, .int 3, .int 3] (0 + (i : Int)) = some (.int (many : Int)) ∧ 0 < most ∧ most ≤ 4 ∧ many ≤ 8 ∧ ((most ≤ 3 ∧ many ≤ 5) ∨ many ≤ 3) := by
        have : i = 0 ∨ i = 1 ∨ i = 2 := by omega
        rcases this with rfl | rfl | rfl
        · exact ⟨3, 5, rfl, rfl, by decide, by decide, by decide, by decide⟩
        · exact ⟨4, 3, rfl, rfl, by decide, by decide, by decide, by decide⟩
        · exact ⟨3, 3, rfl, rfl, by decide, by decide, by decide, by decide⟩
      refine ⟨_, rfl, _, _, _, _, rfl, rfl, SqT.of ep1, hat1, ?_⟩
      refine ⟨(by show 3 ≤ sizeLine; decide), fun p2 np2 => ?_⟩
      generalize hp2 : upd H3 p2 _ = H4
      have sp2 : Same H3 H4 := hp2 ▸ Same.new np2
      have ep2 : H4 p2 = some (.tup [.int 5, .int 3, .int 3]) := hp2 ▸ upd_same
      clear hp2
      refine ⟨_, rfl, _, _, _, _, rfl, rfl, SqT.of ep2, hat2, ?_⟩
      have d4 := d2.same (Same.tr sp1 sp2)
      refine ⟨st, c', ns, most, many, rfl, d4, hlen, hmany, hmost, hmost4, fun ss A H7 l1 l4 ok aA7 d7 b7 => ?_⟩
      refine ⟨fun σ' H8 => ∃ (A : Addr) (ss : List (List Wd)), Ok4 ss ∧ Sz ss ∧ At st H8 (.ref A) (scD ss) ∧ Drw H8 st c' ns ∧ σ' = [some (.ref a), some (.ref st), some (.int (0 + (i : Int))), some (.ref A), o4, o5, o6, o7, o8, o9, o10, o11, o12, o13, o14, o15, o16], ?_, ?_⟩
      · have okk : Ok4 ss := ⟨l1, by omega, fun sc hs => (ok sc hs).1⟩
        have szz : Sz ss := by
          rcases hsz with ⟨h1, h2⟩ | h2
          · refine .inl ⟨by omega, fun sc hs => ?_⟩
            have := (ok sc hs).2
            omega
          · refine .inr ⟨by omega, fun sc hs => ?_⟩
            have := (ok sc hs).2
            omega
        refine ⟨_, rfl, rfl, _, rfl, ?_⟩
        cases decide (V.int (0 + (i : Int)) = V.int 2)
        · refine iteF ?_
          exact ⟨A, ss, okk, szz, aA7, d7, rfl⟩
        · refine iteT ?_
          obtain ⟨o7', hst7⟩ := d7.at
          refine ⟨_, rfl, st, A, o7', ss, hst7, rfl, aA7, okk.l4, okk.ok, fun q H9 s9 aq => ?_⟩
          refine ⟨q, ss.map rdS, ⟨by rw [List.length_map]; exact l1, by rw [List.length_map]; exact okk.l4, fun sc hs => ?_⟩, ?_, aq, d7.same s9, rfl⟩
          · obtain ⟨sc', hs', rfl⟩ := List.mem_map.mp hs
            exact rd_scr (okk.ok sc' hs')
          · have hrd : ∀ {n : Nat}, (∀ sc ∈ ss, sc.length ≤ n) → ∀ sc ∈ ss.map rdS, sc.length ≤ n := fun h sc hs => by
              obtain ⟨sc', hs', rfl⟩ := List.mem_map.mp hs
              exact Nat.le_trans (rdS_len sc') (h sc' hs')
            rcases szz with ⟨h1, h2⟩ | ⟨h1, h2⟩
            · exact .inl ⟨by rw [List.length_map]; exact h1, hrd h2⟩
            · exact .inr ⟨by rw [List.length_map]; exact h1, hrd h2⟩
      clear hat1 hat2 hsz aA7 d7 b7 l1 l4 ok hmost hmost4 hmany
      clear A ss most many
      rintro σ' H8 ⟨A, ss, ok4, sz, aA8, d8, rfl⟩
      have l4 := ok4.l4
      -- handed
      refine ⟨_, rfl, _, rfl, st, c', ns, .ref A, scD ss, rfl, d8, hlen, aA8, lev_scripts l4 ok4.ok, fun y dH H9 hn hz d9 b9 => ?_⟩
      obtain ⟨o8', hst8⟩ := d8.at
      have aH9 := hz _ _ hst8
      have sc := hn.scripts
      obtain ⟨dsH, sqH, _⟩ := id sc
      obtain ⟨Hd, uH, rfl, nHd, _, _⟩ := sqH.at aH9
      have tr9 : Stn st c' A Hd ns ss dH H9 := ⟨d9, (aA8.mono b9).tp (isT_sc ss), aH9⟩
      clear aH9 hz aA8 hn b9 d9
      -- orders
      refine ⟨_, rfl, by decide, by decide, ?_⟩
      refine for_range (fun kk σ H3 => (∃ o5 o6 o7 o8 o9 o10 o11 o12 o13 o14 o15 o16, σ = [some (.ref a), some (.ref st), some (.int (0 + (i : Int))), some (.ref A), some (.ref Hd), o5, o6, o7, o8, o9, o10, o11, o12, o13, o14, o15, o16]) ∧ Stn st c' A Hd ns ss dH H3) ⟨⟨_, _, _, _, _, _, _, _, _, _, _, _, rfl⟩, tr9⟩ ?_ ?_
      · clear tr9
        clear o5 o6 o7 o8 o9 o10 o11 o12 o13 o14 o15 o16
        rintro kk σ H3 hkk ⟨⟨o5, o6, o7, o8, o9, o10, o11, o12, o13, o14, o15, o16, rfl⟩, tr3⟩
        refine ⟨_, rfl, _, rfl, _, rfl, .inl ⟨_, rfl, ?_⟩⟩
        refine ⟨_, _, rfl, rfl, (by show (2 : Int) ≠ 0; decide), ?_⟩
        refine ⟨rfl, ?_⟩
        refine ⟨st, c', A, ns, ss, _, rfl, tr3.dr, hlen, tr3.tA, ok4, fun F ks H4 nF hF lks ksl d4 b4 => ?_⟩
        have tr4 := tr3.but b4 d4
        have nFs : F ≠ st := tr3.dr.nst nF
        refine ⟨fun σ' H5 => ∃ (y : V) (d : PyData), σ' = [some (.ref a), some (.ref st), some (.int (0 + (i : Int))), some (.ref A), some (.ref Hd), some (.int (0 + (kk : Int))), some y, o7, o8, o9, o10, o11, o12, o13, o14, o15, o16] ∧ Ax st H5 y d ∧ Fit 18 d ∧ Stn st c' A Hd ns ss dH H5, ?_, ?_⟩
        · refine ⟨_, rfl, st, c', ns, 2, rfl, d4, hlen, by decide, by decide, fun z H5 z0 z1 d5 b5 => ?_⟩
          refine ⟨rfl, _, rfl, ?_⟩
          have tr5 := tr4.but b5 d5
          have hF5 := b5 _ _ hF nFs
          cases decide (V.int z = V.int 0)
          · refine iteF ?_
            exact ⟨.ref F, _, rfl, .lst nFs hF5 (ax_ords ks), fit_ords lks ksl, tr5⟩
          · refine iteT ?_
            refine ⟨_, rfl, _, rfl, st, c', F, ns, ks, rfl, d5, hlen, nFs, hF5, lks, ksl, fun y d H6 ax ft d6 b6 => ?_⟩
            exact ⟨y, d, rfl, ax, ft, tr5.but b6 d6⟩
        clear tr4 d4 b4 hF nFs lks ksl nF
        clear F ks
        rintro σ' H5 ⟨y0, d0, rfl, ax5, ft5, tr5⟩
        obtain ⟨o5', hst5⟩ := tr5.dr.at
        refine ⟨_, rfl, _, rfl, st, c', ns, y0, d0, rfl, tr5.dr, hlen, ax5, ft5.lev (by decide), fun y d H6 hn hz d6 b6 => ?_⟩
        have ax6 := hz _ _ hst5 ax5
        have ft6 := hn.fit ft5
        have tr6 := tr5.but b6 d6
        clear hz hn ax5 ft5 b6 d6
        obtain ⟨o6', hst6⟩ := tr6.dr.at
        -- kept, told
        refine ⟨fun σ' H7 => ∃ (t : V), σ' = [some (.ref a), some (.ref st), some (.int (0 + (i : Int))), some (.ref A), some (.ref Hd), some (.int (0 + (kk : Int))), some y, some (.str d.shown), some t, o9, o10, o11, o12, o13, o14, o15, o16] ∧ Ax st H7 y d ∧ Stn st c' A Hd ns ss dH H7 ∧ Tld ss d H7 t, ?_, ?_⟩
        · refine ⟨_, rfl, ?_⟩
          dsimp only [tNil]
          refine ⟨st, y, d, rfl, ax6, ft6.sh, (by have := ft6.dp; omega), ft6.txt (by decide), ?_⟩
          refine ⟨_, rfl, _, rfl, st, A, y, o6', ss, d, hst6, tr6.dr.nt, rfl, tr6.tA, ok4, ax6, (fun ds s => by have := ft6.len ds s; omega), fun p e q B L H7 s7 hq tB hL => ?_, fun e H7 s7 => ?_⟩
          · exact ⟨_, _, rfl, _, rfl, ax6.mono (Same.but s7), tr6.same s7, .inl ⟨p, q, B, L, e, rfl, hq, tB, hL⟩⟩
          · exact ⟨_, _, rfl, _, rfl, ax6.mono (Same.but s7), tr6.same s7, .inr ⟨e, rfl⟩⟩
        clear hst6 tr6 ax6 o6'
        rintro σ' H7 ⟨t, rfl, ax7, tr7, tld⟩
        -- due
        refine ⟨fun σ' H8 => ∃ (Du : Addr), σ' = [some (.ref a), some (.ref st), some (.int (0 + (i : Int))), some (.ref A), some (.ref Hd), some (.int (0 + (kk : Int))), some y, some (.str d.shown), some t, some (.ref Du), o10, o11, o12, o13, o14, o15, o16] ∧ Same H7 H8 ∧ H7 Du = none ∧ H8 Du = some (.lst [.bl (isOrd ss d)]), ?_, ?_⟩
        · have fin : ∀ (Hx : Hp) (v : Bool), Same H7 Hx → v = isOrd ss d → ([V.bl v].length ≤ sizeLine ∧ ∀ p, Hx p = none → ∃ (Du : Addr), [some (.ref a), some (.ref st), some (.int (0 + (i : Int))), some (.ref A), some (.ref Hd), some (.int (0 + (kk : Int))), some y, some (.str d.shown), some t, some (.ref p), o10, o11, o12, o13, o14, o15, o16] = [some (.ref a), some (.ref st), some (.int (0 + (i : Int))), some (.ref A), some (.ref Hd), some (.int (0 + (kk : Int))), some y, some (.str d.shown), some t, some (.ref Du), o10, o11, o12, o13, o14, o15, o16] ∧ Same H7 (upd Hx p (.lst [.bl v])) ∧ H7 Du = none ∧ upd Hx p (.lst [.bl v]) Du = some (.lst [.bl (isOrd ss d)])) := fun Hx v sx e => ⟨(by show 1 ≤ sizeLine; decide), fun p np => ⟨p, rfl, Same.tr sx (Same.new np), Same.free sx np, by rw [upd_same, e]⟩⟩
          rcases tld with ⟨p, q, B, L, e, rfl, hq, tB, hL⟩ | ⟨e, rfl⟩
          · refine ⟨_, rfl, rfl, ?_⟩
            rw [decide_eq_false (show ¬ V.ref q = V.non from fun z => by cases z)]
            refine ⟨_, rfl, iteT ?_⟩
            refine ⟨_, rfl, _, _, _, _, rfl, rfl, SqT.of hq, rfl, _, rfl, _, rfl, ?_⟩
            dsimp only [tNoPart]
            refine slL hL fun L2 H8 n2 s8 h2 => ?_
            rw [cut_last, List.length_map, drop_bools] at h2
            refine ⟨(by show 1 ≤ sizeLine; decide), fun L3 n3 => ?_⟩
            generalize hL3 : upd H8 L3 _ = H9
            have s9 : Same H8 H9 := hL3 ▸ Same.new n3
            have e3 : H9 L3 = some (.lst [.bl true]) := hL3 ▸ upd_same
            clear hL3
            refine ⟨_, _, Dp.lst (SqL.of (s9 _ _ h2)) (at_bools (m := L2) _).dp, Dp.lst (SqL.of e3) (at_bools (m := L2) [true]).dp, shaped_bools _, rfl, ?_⟩
            have hev : PyData.eqv (.list (boolD (p.2.drop (p.2.length - 1)))) (.list (boolD [true])) = decide (p.2.drop (p.2.length - 1) = [true]) := eqv_bools _ _
            rw [hev]
            have ho : isOrd ss d = ordF p.2 := by rw [isOrd_wk, e]
            have s79 := Same.tr s8 s9
            refine ⟨_, rfl, ?_⟩
            by_cases h1 : p.2.drop (p.2.length - 1) = [true]
            case neg =>
              rw [decide_eq_false h1]
              refine iteF ?_
              exact fin H9 false s79 (by rw [ho]; unfold ordF; rw [decide_eq_false h1]; rfl)
            rw [decide_eq_true h1]
            refine iteT ?_
            refine ⟨_, rfl, _, _, _, _, rfl, rfl, SqT.of (s79 _ _ hq), rfl, ?_⟩
            dsimp only [tNoPart]
            refine ⟨_, rfl, _, rfl, ?_⟩
            refine slL (s79 _ _ hL) fun L4 H10 n4 s10 h4 => ?_
            rw [cut_front, List.length_map, take_bools] at h4
            refine ⟨_, _, rfl, .inl (SqL.of h4), rfl, flat_bools _, ?_⟩
            rw [if_pos rfl, inV_true]
            exact fin H10 _ (Same.tr s79 s10) (by rw [ho]; unfold ordF; rw [decide_eq_true h1, Bool.true_and])
          · refine ⟨_, rfl, rfl, ?_⟩
            rw [decide_eq_true rfl]
            refine ⟨_, rfl, iteF ?_⟩
            exact fin H7 false (fun _ _ e => e) (by rw [isOrd_wk, e])
        rintro σ' H8 ⟨Du, rfl, s8, nDu, hDu⟩
        have ax8 := ax7.mono (Same.but (m := st) s8)
        have tr8 := tr7.same s8
        -- due.append
        refine ⟨fun σ' H9 => σ' = [some (.ref a), some (.ref st), some (.int (0 + (i : Int))), some (.ref A), some (.ref Hd), some (.int (0 + (kk : Int))), some y, some (.str d.shown), some t, some (.ref Du), o10, o11, o12, o13, o14, o15, o16] ∧ Same H7 H9 ∧ H9 Du = some (.lst [.bl (isOrd ss d), .bl (isStu ss d)]), ?_, ?_⟩
        · refine ⟨_, rfl, .inl ⟨rfl, _, SqL.of hDu⟩, ?_⟩
          have fin : ∀ (Hx : Hp), Same H8 Hx → Same H7 (upd Hx Du (.lst ([.bl (isOrd ss d)] ++ [.bl (isStu ss d)]))) := fun Hx sx b u e => by
            rw [upd_ne (ne_of_none e nDu)]
            exact sx _ _ (s8 _ _ e)
          rcases tld with ⟨p, q, B, L, e, rfl, hq, tB, hL⟩ | ⟨e, rfl⟩
          · refine ⟨_, rfl, rfl, ?_⟩
            rw [decide_eq_false (show ¬ V.ref q = V.non from fun z => by cases z)]
            refine ⟨_, rfl, iteT ?_⟩
            have ho : isStu ss d = stk ss p.1 := by rw [isStu_wk, e]
            obtain ⟨ds, sqd⟩ : ∃ ds, Sq2 d ds := by
              cases hlt : isLT d
              · rw [wkD_no hlt] at e
                cases e
              · exact isLT_sq hlt
            have si : SI ss p.1 := (wk_si ok4.ok ((wkD_sq sqd).symm.trans e)).1
            refine ⟨_, rfl, _, rfl, _, _, _, _, rfl, rfl, SqT.of (s8 _ _ hq), rfl, ?_⟩
            refine ⟨A, B, ss, p.1, rfl, tr8.tA, tB.mono (.same s8), si, ok4, ⟨st, tr8.dr.nt⟩, fun H9 s9 => ?_⟩
            refine ⟨_, _, _, rfl, rfl, s9 _ _ hDu, (by show 1 < sizeLine; decide), ?_⟩
            rw [← ho]
            exact ⟨rfl, fin H9 s9, upd_same⟩
          · refine ⟨_, rfl, rfl, ?_⟩
            rw [decide_eq_true rfl]
            refine ⟨_, rfl, iteF ?_⟩
            have ho : isStu ss d = false := by rw [isStu_wk, e]
            refine ⟨_, _, _, rfl, rfl, hDu, (by show 1 < sizeLine; decide), ?_⟩
            have := fin H8 (fun _ _ e => e)
            rw [ho] at this ⊢
            exact ⟨rfl, this, upd_same⟩
        clear ax8 tr8 hDu s8 tld
        rintro σ' H9 ⟨rfl, s9, hDu⟩
        have ax9 := ax7.mono (Same.but (m := st) s9)
        have tr9 := tr7.same s9
        obtain ⟨o9', hst9⟩ := tr9.dr.at
        -- found
        refine ⟨_, rfl, _, rfl, st, Hd, y, o9', ss, dH, d, hst9, tr9.dr.nt, rfl, tr9.aH, sc, ok4, ax9, fun H10 s10 => ?_⟩
        have tr10 := tr9.same s10
        have ax10 := ax9.mono (Same.but (m := st) s10)
        have hst10 := s10 _ _ hst9
        refine ⟨_, rfl, _, rfl, st, Hd, y, o9', ss, dH, d, hst10, tr10.dr.nt, rfl, tr10.aH, sc, ok4, ax10, fun H11 s11 => ?_⟩
        refine ⟨(by show 2 ≤ sizeLine; decide), fun Fo nFo => ?_⟩
        generalize hFo : upd H11 Fo _ = H12
        have s12 : Same H11 H12 := hFo ▸ Same.new nFo
        have eFo : H12 Fo = some (.lst [.bl (isOrd ss d), .bl (isStu ss d)]) := hFo ▸ upd_same
        clear hFo
        have s1012 := Same.tr s11 s12
        have s912 := Same.tr s10 s1012
        have nDs : Du ≠ st := tr7.dr.nst nDu
        have nFs : Fo ≠ st := (tr10.dr.same s11).nst nFo
        have hst12 := s1012 _ _ hst10
        refine ⟨_, rfl, _, rfl, st, .ref Fo, .ref Du, .list (boolD [isOrd ss d, isStu ss d]), o9', rfl, hst12, .lst nFs eFo (at_bools [isOrd ss d, isStu ss d]), .lst nDs (s912 _ _ hDu) (at_bools [isOrd ss d, isStu ss d]), lev_bools _ (by show 2 ≤ 5000000; decide), fun H13 s13 => ?_⟩
        refine ⟨_, rfl, iteF ?_⟩
        refine ⟨_, rfl, ?_⟩
        dsimp only [tNil]
        have s913 := Same.tr s912 s13
        refine ⟨st, y, d, rfl, ax9.mono (Same.but s913), ft6.sh, (by have := ft6.dp; omega), ft6.txt (by decide), ?_⟩
        refine ⟨_, rfl, rfl, _, rfl, ?_⟩
        rw [decide_eq_true (show V.str d.shown = V.str d.shown from rfl)]
        refine iteF ?_
        exact ⟨⟨_, _, _, _, _, _, _, _, _, _, _, _, rfl⟩, tr9.same s913⟩
      · clear tr9
        clear o5 o6 o7 o8 o9 o10 o11 o12 o13 o14 o15 o16
        rintro σ H3 ⟨⟨o5, o6, o7, o8, o9, o10, o11, o12, o13, o14, o15, o16, rfl⟩, tr3⟩
        -- states
        refine ⟨(by show 2 ≤ sizeLine; decide), fun tp ntp => ?_⟩
        generalize htp : upd H3 tp _ = H4
        have stp : Same H3 H4 := htp ▸ Same.new ntp
        have etp : H4 tp = some (.tup [.bl false, .bl true]) := htp ▸ upd_same
        clear htp
        refine ⟨tp, rfl, ⟨_, SqT.of etp⟩, ?_⟩
        refine for_it (walk_tup (K := K) (a := tp) (xs := [V.bl false, .bl true])) (fun jj σ H5 => (∃ o5 o6 o7 o8 o9 o10 o11 o12 o13 o14 o15 o16, σ = [some (.ref a), some (.ref st), some (.int (0 + (i : Int))), some (.ref A), some (.ref Hd), o5, o6, o7, o8, o9, o10, o11, o12, o13, o14, o15, o16]) ∧ Stn st c' A Hd ns ss dH H5 ∧ H5 tp = some (.tup [.bl false, .bl true])) ⟨⟨_, _, _, _, _, _, _, _, _, _, _, _, rfl⟩, tr3.same stp, etp⟩ ?_ ?_ ?_
        · rintro jj σ H5 _ ⟨_, _, e⟩
          exact SqT.of e
        · clear tr3 stp etp ntp
          clear o5 o6 o7 o8 o9 o10 o11 o12 o13 o14 o15 o16
          rintro jj v σ H5' H5 hjj ⟨⟨o5, o6, o7, o8, o9, o10, o11, o12, o13, o14, o15, o16, rfl⟩, tr5, etp5⟩ ⟨rfl, ev⟩
          obtain ⟨tr, rfl⟩ : ∃ tr : Bool, v = .bl tr := by
            have := List.mem_of_getElem? ev
            simp only [List.mem_cons, List.not_mem_nil, or_false] at this
            rcases this with rfl | rfl
            · exact ⟨_, rfl⟩
            · exact ⟨_, rfl⟩
          obtain ⟨o5', hst5⟩ := tr5.dr.at
          -- found
          refine ⟨_, rfl, _, rfl, A, ss, tr, rfl, tr5.tA, ok4, ⟨st, _, hst5, tr5.dr.nt⟩, fun Fd H6 N bs s6 nFd sd6 rel hN => ?_⟩
          have tr6 := tr5.same s6
          have etp6 := s6 _ _ etp5
          have inv := bfs_inv (ss := ss) (tr := tr) ok4.ok N
          have hbl := bfs_few (tr := tr) ok4 sz N
          have lbs : bs.length = (bfs ss tr N).length := (paired_len rel).symm
          have est := rel.states
          have hsi : ∀ b ∈ bs, SI ss b.1 := fun b hb => by
            have : b.1 ∈ (bfs ss tr N).map Nd.s := by
              rw [← est]
              exact List.mem_map.mpr ⟨b, hb, rfl⟩
            obtain ⟨e, he, e2⟩ := List.mem_map.mp this
            rw [← e2]
            exact inv.si e he
          have nFs : Fd ≠ st := tr5.dr.nst nFd
          -- bad
          refine ⟨Fd, NDO P w Fd (bs.map kvB), sd6.dict, True.intro, fun od => ?_⟩
          generalize hF5 : upd H6 Fd _ = HA
          have kA : KeepT H6 HA := hF5 ▸ KeepT.ext sd6.dict
          have eF : HA Fd = some (.frz od (NDO P w Fd (bs.map kvB))) := hF5 ▸ upd_same
          have sA : ∀ b u, b ≠ Fd → H6 b = some u → HA b = some u := fun b u n e => by
            rw [← hF5, upd_ne n]
            exact e
          clear hF5
          refine ⟨_, rfl, Fd, od, bs.map kvB, rfl, eF, fun Lb hLg => ?_⟩
          have nLF : Lb ≠ Fd := fun z => by
            rw [z, eF] at hLg
            cases hLg
          refine lc_it (walk_keysN (P := P) (w := w) (d := Fd) (o := od) (kvs := bs.map kvB)) (fun j HQ => Same HA HQ ∧ ∃ vs, HQ Lb = some (.lst vs) ∧ TpAll HQ vs ((((bs.take j).map (·.1)).filter fun xs => rfd ss xs).map stD)) ?_ ?_ ?_ ?_
          · exact ⟨same_new hLg, [], upd_same, .nil⟩
          · exact fun j HQ _ q => q.1 _ _ eF
          · rintro j u H9' HQ hj ⟨s6, vs, hl6, tv6⟩ ⟨rfl, e, he, rfl⟩
            rw [List.getElem?_map] at he
            obtain ⟨b, hb, rfl⟩ := Option.map_eq_some_iff.mp he
            have hbm := List.mem_of_getElem? hb
            have tb := ((sd6.tp b hbm).mono kA).mono (.same s6)
            have tA6 := (tr6.tA.mono kA).mono (.same s6)
            have si : SI ss b.1 := hsi b hbm
            have hl7 : vs.length < sizeLine := by
              rw [tv6.length, List.length_map]
              have h1 := List.length_filter_le (fun xs => rfd ss xs) ((bs.take j).map (·.1))
              rw [List.length_map, List.length_take] at h1
              exact small6 (by omega)
            refine ⟨rfl, ?_⟩
            refine ⟨_, rfl, _, rfl, A, b.2.1, ss, b.1, rfl, tA6, tb, si, ok4, ⟨Lb, .lst hl6⟩, fun HR s7 => ?_⟩
            refine ⟨_, rfl, ?_⟩
            have he1 : (((bs.take (j + 1)).map (·.1)).filter fun xs => rfd ss xs) = (((bs.take j).map (·.1)).filter fun xs => rfd ss xs) ++ (if rfd ss b.1 = true then [b.1] else []) := by
              rw [take_succ' hb, List.map_append, List.filter_append]
              congr 1
              rw [List.map_cons, List.map_nil, List.filter_cons]
              rfl
            have tv7 := tv6.mono (.same s7)
            cases hrf : rfd ss b.1
            · refine iteF ⟨Same.tr s6 s7, vs, s7 _ _ hl6, ?_⟩
              rw [he1, hrf, if_neg Bool.false_ne_true, List.append_nil]
              exact tv7
            · refine iteT ?_
              have s67 := Same.tr s6 s7
              refine ⟨_, rfl, _, s7 _ _ hl6, hl7, fun b' u e => ?_, _, upd_same, ?_⟩
              · rw [upd_ne (ne_of_none e hLg)]
                exact s67 _ _ e
              · rw [he1, hrf, if_pos rfl, List.map_append]
                exact (tv7.append (tb.mono (.same s7))).mono (.lst (s7 _ _ hl6))
          · rintro HQ ⟨s6, vs, hl6, tv6⟩
            rw [List.length_map, List.take_length] at tv6
            refine ⟨s6 _ _ eF, ?_⟩
            generalize hHo : upd HQ Fd _ = H7
            have s7 : Same H6 H7 := fun b u e => by
              rw [← hHo]
              by_cases hbF : b = Fd
              · rw [hbF, upd_same, ← sd6.dict, ← hbF]
                exact e
              · rw [upd_ne hbF]
                exact s6 _ _ (sA b u hbF e)
            have hLg' : H7 Lb = some (.lst vs) := by
              rw [← hHo, upd_ne nLF]
              exact hl6
            have tv' : TpAll H7 vs (((bs.map (·.1)).filter fun xs => rfd ss xs).map stD) := by
              rw [← hHo]
              refine tv6.mono fun q ws e => ?_
              rw [upd_ne fun z => ?_]
              · exact e
              · rw [z, s6 _ _ eF] at e
                cases e
            have nLs : Lb ≠ st := fun z => by
              obtain ⟨ox, hx⟩ := tr6.dr.at
              rw [z, sA st _ (fun z => by rw [z, sd6.dict] at hx; obtain ⟨_, _, _, _, _, hs⟩ := tr6.dr; rw [z, sd6.dict] at hs; unfold NDO at hs; cases hs) hx] at hLg
              cases hLg
            clear hHo s6 hl6 tv6 eF kA sA hLg nLF
            have tr7 := tr6.same s7
            have sd7 := sd6.same s7
            have etp7 := s7 _ _ etp6
            refine ⟨fun σ' H8 => ∃ (Lb : Addr) (vs : List V), σ' = [some (.ref a), some (.ref st), some (.int (0 + (i : Int))), some (.ref A), some (.ref Hd), o5, o6, o7, o8, o9, some (.ref Fd), some (.bl tr), some (.ref Lb), o13, o14, o15, o16] ∧ Stn st c' A Hd ns ss dH H8 ∧ Sd P w H8 Fd bs ∧ H8 tp = some (.tup [.bl false, .bl true]) ∧ Lb ≠ st ∧ H8 Lb = some (.lst vs) ∧ TpAll H8 vs ((badS ss tr (bs.map (·.1))).map stD), ?_, ?_⟩
            · refine ⟨_, rfl, _, rfl, ?_⟩
              cases tr
              · refine iteF ?_
                exact ⟨Lb, vs, rfl, tr7, sd7, etp7, nLs, hLg', tv'⟩
              refine iteT ?_
              clear hLg' tv' nLs
              refine ⟨Fd, NDO P w Fd (bs.map kvB), sd7.dict, True.intro, fun od => ?_⟩
              generalize hF5 : upd H7 Fd _ = HA
              have kA : KeepT H7 HA := hF5 ▸ KeepT.ext sd7.dict
              have eF : HA Fd = some (.frz od (NDO P w Fd (bs.map kvB))) := hF5 ▸ upd_same
              have sA : ∀ b u, b ≠ Fd → H7 b = some u → HA b = some u := fun b u n e => by
                rw [← hF5, upd_ne n]
                exact e
              clear hF5
              refine ⟨_, rfl, Fd, od, bs.map kvB, rfl, eF, fun Lc hLg => ?_⟩
              have nLF : Lc ≠ Fd := fun z => by
                rw [z, eF] at hLg
                cases hLg
              refine lc_it (walk_keysN (P := P) (w := w) (d := Fd) (o := od) (kvs := bs.map kvB)) (fun j HQ => Same HA HQ ∧ ∃ vs, HQ Lc = some (.lst vs) ∧ TpAll HQ vs ((((bs.take j).map (·.1)).filter fun xs => stk ss xs).map stD)) ?_ ?_ ?_ ?_
              · exact ⟨same_new hLg, [], upd_same, .nil⟩
              · exact fun j HQ _ q => q.1 _ _ eF
              · rintro j u H9' HQ hj ⟨s6, vs, hl6, tv6⟩ ⟨rfl, e, he, rfl⟩
                rw [List.getElem?_map] at he
                obtain ⟨b, hb, rfl⟩ := Option.map_eq_some_iff.mp he
                have hbm := List.mem_of_getElem? hb
                have tb := ((sd7.tp b hbm).mono kA).mono (.same s6)
                have tA6 := (tr7.tA.mono kA).mono (.same s6)
                have si : SI ss b.1 := hsi b hbm
                have hl7 : vs.length < sizeLine := by
                  rw [tv6.length, List.length_map]
                  have h1 := List.length_filter_le (fun xs => stk ss xs) ((bs.take j).map (·.1))
                  rw [List.length_map, List.length_take] at h1
                  exact small6 (by omega)
                refine ⟨rfl, ?_⟩
                refine ⟨_, rfl, _, rfl, A, b.2.1, ss, b.1, rfl, tA6, tb, si, ok4, ⟨Lc, .lst hl6⟩, fun HR s7 => ?_⟩
                refine ⟨_, rfl, ?_⟩
                have he1 : (((bs.take (j + 1)).map (·.1)).filter fun xs => stk ss xs) = (((bs.take j).map (·.1)).filter fun xs => stk ss xs) ++ (if stk ss b.1 = true then [b.1] else []) := by
                  rw [take_succ' hb, List.map_append, List.filter_append]
                  congr 1
                  rw [List.map_cons, List.map_nil, List.filter_cons]
                  rfl
                have tv7 := tv6.mono (.same s7)
                cases hrf : stk ss b.1
                · refine iteF ⟨Same.tr s6 s7, vs, s7 _ _ hl6, ?_⟩
                  rw [he1, hrf, if_neg Bool.false_ne_true, List.append_nil]
                  exact tv7
                · refine iteT ?_
                  have s67 := Same.tr s6 s7
                  refine ⟨_, rfl, _, s7 _ _ hl6, hl7, fun b' u e => ?_, _, upd_same, ?_⟩
                  · rw [upd_ne (ne_of_none e hLg)]
                    exact s67 _ _ e
                  · rw [he1, hrf, if_pos rfl, List.map_append]
                    exact (tv7.append (tb.mono (.same s7))).mono (.lst (s7 _ _ hl6))
              · rintro HQ ⟨s6, vs, hl6, tv6⟩
                rw [List.length_map, List.take_length] at tv6
                refine ⟨s6 _ _ eF, ?_⟩
                generalize hHo : upd HQ Fd _ = H8
                have s8 : Same H7 H8 := fun b u e => by
                  rw [← hHo]
                  by_cases hbF : b = Fd
                  · rw [hbF, upd_same, ← sd7.dict, ← hbF]
                    exact e
                  · rw [upd_ne hbF]
                    exact s6 _ _ (sA b u hbF e)
                have hLg' : H8 Lc = some (.lst vs) := by
                  rw [← hHo, upd_ne nLF]
                  exact hl6
                have tv' : TpAll H8 vs (((bs.map (·.1)).filter fun xs => stk ss xs).map stD) := by
                  rw [← hHo]
                  refine tv6.mono fun q ws e => ?_
                  rw [upd_ne fun z => ?_]
                  · exact e
                  · rw [z, s6 _ _ eF] at e
                    cases e
                have nLs : Lc ≠ st := fun z => by
                  obtain ⟨ox, hx⟩ := tr7.dr.at
                  rw [z, sA st _ (fun z => by rw [z, sd7.dict] at hx; obtain ⟨_, _, _, _, _, hs⟩ := tr7.dr; rw [z, sd7.dict] at hs; unfold NDO at hs; cases hs) hx] at hLg
                  cases hLg
                exact ⟨Lc, vs, rfl, tr7.same s8, sd7.same s8, s8 _ _ etp7, nLs, hLg', tv'⟩
            clear hLg' tv' nLs tr7 sd7 etp7 s7
            clear vs Lb
            rintro σ' H8 ⟨Lb, vs, rfl, tr8, sd8, etp8, nLb, hLb, tvb⟩
            have lvs : vs.length ≤ 65536 := by
              rw [tvb.length, List.length_map]
              have := List.length_filter_le (fun xs => (if tr = true then stk ss xs else rfd ss xs)) (bs.map (·.1))
              rw [List.length_map] at this
              unfold badS
              omega
            have rc8 : Rcd P w st c' A Hd ns ss dH Fd bs tp Lb vs (badS ss tr (bs.map (·.1))) H8 := ⟨tr8, sd8, etp8, hLb, tvb⟩
            clear tr8 sd8 etp8 hLb tvb
            refine ⟨_, rfl, by decide, by decide, ?_⟩
            refine for_range (fun kk σ H9 => (∃ o5 o6 o7 o8 o9 o13 o14 o15 o16, σ = [some (.ref a), some (.ref st), some (.int (0 + (i : Int))), some (.ref A), some (.ref Hd), o5, o6, o7, o8, o9, some (.ref Fd), some (.bl tr), some (.ref Lb), o13, o14, o15, o16]) ∧ Rcd P w st c' A Hd ns ss dH Fd bs tp Lb vs (badS ss tr (bs.map (·.1))) H9) ⟨⟨_, _, _, _, _, _, _, _, _, rfl⟩, rc8⟩ ?_ ?_
            · clear rc8
              clear o5 o6 o7 o8 o9 o10 o11 o12 o13 o14 o15 o16
              rintro kk σ H9 hkk ⟨⟨o5, o6, o7, o8, o9, o13, o14, o15, o16, rfl⟩, rc9⟩
              -- states = list(found)
              refine ⟨_, rfl, ?_⟩
              dsimp only [tNil]
              refine ⟨Fd, _, rfl, rc9.sd.dict, fun L0 nL0 => ?_⟩
              generalize hL0 : upd H9 L0 _ = H10
              have s10 : Same H9 H10 := hL0 ▸ Same.new nL0
              have eL0 : H10 L0 = some (.lst ((bs.map kvB).map fun e => V.ref e.2.1)) := hL0 ▸ upd_same
              clear hL0
              have rc10 := rc9.same s10
              have nL0s : L0 ≠ st := rc9.tr.dr.nst nL0
              have pw0 : ∀ v ∈ ((bs.map kvB).map fun e => V.ref e.2.1), ∃ d, Elt d ∧ Ax st H10 v d := fun v hv => by
                obtain ⟨e, he, rfl⟩ := List.mem_map.mp hv
                obtain ⟨b, hb, rfl⟩ := List.mem_map.mp he
                exact ⟨stD b.1, (hsi b hb).elt ok4, ((rc10.sd.tp b hb).at rc10.tr.dr.nt).ax⟩
              have stl0 : ∃ d, Ax st H10 (.ref L0) d ∧ StL 65536 d := by
                obtain ⟨ds, a1, a2⟩ := ax_pull pw0
                refine ⟨.list ds, .lst nL0s eL0 a1, .inr ⟨ds, rfl, ?_, a2⟩⟩
                rw [← a1.length, List.length_map, List.length_map]
                omega
              clear pw0 eL0
              obtain ⟨d0, ax0, stl⟩ := stl0
              -- bent
              refine ⟨_, rfl, st, c', ns, 3, rfl, rc10.tr.dr, hlen, by decide, by decide, fun z H11 z0 z1 d11 b11 => ?_⟩
              refine ⟨_, rfl, (by omega), (by omega), ?_⟩
              refine for_range (lo := 0) (n := z.toNat) (fun ag σ H12 => ∃ (o14 : Option V) (x : V) (d : PyData), σ = [some (.ref a), some (.ref st), some (.int (0 + (i : Int))), some (.ref A), some (.ref Hd), some (.int (0 + (kk : Int))), o6, o7, o8, o9, some (.ref Fd), some (.bl tr), some (.ref Lb), some x, o14, o15, o16] ∧ Ax st H12 x d ∧ StL (65536 + ag) d ∧ Rcd P w st c' A Hd ns ss dH Fd bs tp Lb vs (badS ss tr (bs.map (·.1))) H12) ⟨_, _, d0, rfl, ax0.mono b11, stl, rc10.but nFs nLb b11 d11⟩ ?_ ?_
              · rintro ag σ H12 hag ⟨o14, x, d, rfl, ax, st12, rc⟩
                have hag3 : ag < 3 := by omega
                refine ⟨_, rfl, ?_⟩
                dsimp only [tCons, tC, tNil]
                refine ax_isl ax ?_
                refine ⟨_, rfl, ?_⟩
                have stay : StL (65536 + (ag + 1)) d := st12.mono (by omega)
                cases hls : isLs d
                · refine iteF (iteF ?_)
                  exact ⟨_, rfl, _, x, d, rfl, ax, stay, rc⟩
                refine iteT ?_
                obtain ⟨ds, rfl⟩ := isLs_some hls
                obtain ⟨L, us, rfl, nL, hL, aus⟩ := ax_lst ax
                obtain ⟨hld, held⟩ := st12.elts (by omega)
                refine ⟨_, rfl, (by show 0 ≤ sizeLine; decide), fun N1 nN1 => ?_⟩
                generalize hN1 : upd H12 N1 _ = H13
                have sN1 : Same H12 H13 := hN1 ▸ Same.new nN1
                have eN1 : H13 N1 = some (.lst []) := hN1 ▸ upd_same
                clear hN1
                have rc13 := rc.same sN1
                have lus := aus.length
                refine ⟨L, N1, us, rfl, rfl, SqL.of (sN1 _ _ hL), SqL.of eN1, ?_⟩
                refine ⟨_, rfl, ?_⟩
                cases hE : us.isEmpty
                case true =>
                  refine iteF ?_
                  exact ⟨_, rfl, _, _, _, rfl, ax.mono (Same.but sN1), stay, rc13⟩
                refine iteT ?_
                have hu0 : 0 < us.length := by
                  cases us with
                  | nil => cases hE
                  | cons a r => exact Nat.succ_pos _
                refine ⟨_, rfl, _, rfl, st, c', L, ns, us, rfl, rc13.tr.dr, hlen, nL, sN1 _ _ hL, hu0, (by omega), ?_, fun x d H14 hd ax' d14 b14 => ?_, fun C ys H14 nC hC hl hy d14 b14 => ?_⟩
                · intro v hv
                  obtain ⟨d, e1, e2⟩ := ax_back aus held v hv
                  exact ⟨d, e1, e2.mono (Same.but sN1)⟩
                · exact ⟨_, x, d, rfl, ax', .inl hd, rc13.but nFs nLb b14 d14⟩
                · obtain ⟨es, a1, a2⟩ := ax_pull hy
                  refine ⟨_, .ref C, .list es, rfl, .lst nC hC a1, .inr ⟨es, rfl, ?_, a2⟩, rc13.but nFs nLb b14 d14⟩
                  rw [← a1.length]
                  omega
              · rintro σ H12 ⟨o14, x0, dx0, rfl, axx, st12, rc12⟩
                have ftx : Fit 65600 dx0 := st12.fit (by omega)
                obtain ⟨o12', hst12⟩ := rc12.tr.dr.at
                refine ⟨_, rfl, _, rfl, st, c', ns, x0, dx0, rfl, rc12.tr.dr, hlen, axx, ftx.lev (by decide), fun x d H13 hn hz d13 b13 => ?_⟩
                have ax13 := hz _ _ hst12 axx
                have ft := hn.fit ftx
                have rc13 := rc12.but nFs nLb b13 d13
                clear hz hn axx ftx rc12 st12 b13 d13 ax0 stl rc10 rc9
                obtain ⟨o13', hst13⟩ := rc13.tr.dr.at
                -- kept, ask
                refine ⟨fun σ' H14 => H14 = H13 ∧ σ' = [some (.ref a), some (.ref st), some (.int (0 + (i : Int))), some (.ref A), some (.ref Hd), some (.int (0 + (kk : Int))), o6, some (.str d.shown), o8, o9, some (.ref Fd), some (.bl tr), some (.ref Lb), some x, o14, some (.ref (if tr = true then fF else fN)), o16], ?_, ?_⟩
                · refine ⟨_, rfl, ?_⟩
                  dsimp only [tNil]
                  refine ⟨st, x, d, rfl, ax13, ft.sh, (by have := ft.dp; omega), ft.txt (by decide), ?_⟩
                  refine ⟨_, rfl, _, rfl, ?_⟩
                  cases tr
                  · exact iteF ⟨_, _, rfl, rfl, rfl⟩
                  · exact iteT ⟨_, _, rfl, rfl, rfl⟩
                rintro σ' H14 ⟨rfl, rfl⟩
                -- due
                have due : endB ss tr (fun xs => if tr = true then stk ss xs else rfd ss xs) N d = ((badS ss tr (bs.map (·.1))).isEmpty && allD (bs.map (·.1)) d) := by
                  unfold endB
                  rw [est, ← est]
                  congr 1
                  · rw [est]
                    unfold badS
                    exact all_badN (fun xs => if tr = true then stk ss xs else rfd ss xs) (bfs ss tr N)
                refine ⟨fun σ' H15 => Same H14 H15 ∧ σ' = [some (.ref a), some (.ref st), some (.int (0 + (i : Int))), some (.ref A), some (.ref Hd), some (.int (0 + (kk : Int))), o6, some (.str d.shown), o8, some (.bl (endB ss tr (fun xs => if tr = true then stk ss xs else rfd ss xs) N d)), some (.ref Fd), some (.bl tr), some (.ref Lb), some x, o14, some (.ref (if tr = true then fF else fN)), o16], ?_, ?_⟩
                · refine ⟨_, rfl, (by show 0 ≤ sizeLine; decide), fun N1 nN1 => ?_⟩
                  generalize hN1 : upd H14 N1 _ = H15
                  have sN1 : Same H14 H15 := hN1 ▸ Same.new nN1
                  have eN1 : H15 N1 = some (.lst []) := hN1 ▸ upd_same
                  clear hN1
                  have rc15 := rc13.same sN1
                  refine ⟨_, _, Dp.lst (SqL.of rc15.lb) (rc15.tv.at rc15.tr.dr.nt).dp, Dp.lst (SqL.of eN1) .nil, shaped_sts, rfl, ?_⟩
                  rw [eqv_sts_e]
                  refine ⟨_, rfl, ?_⟩
                  cases hE : (badS ss tr (bs.map (·.1))).isEmpty
                  · refine iteF ?_
                    rw [hE, Bool.false_and] at due
                    rw [due]
                    exact ⟨sN1, rfl⟩
                  · refine iteT ?_
                    rw [hE, Bool.true_and] at due
                    rw [due]
                    have fsm := ft.small (by decide)
                    refine ⟨_, rfl, _, rfl, st, Fd, o13', x, bs, d, rfl, sN1 _ _ hst13, rc15.sd, ax13.mono (Same.but sN1), fun ds s => ⟨Nat.le_trans (fsm ds s).1 (by decide), (fsm ds s).2⟩, fun b hb => (hsi b hb).good ok4, ?_, fun H16 s16 => ?_⟩
                    · have : (bs.map fun b => sk b.1) = (bs.map (·.1)).map sk := by rw [List.map_map]; rfl
                      rw [this]
                      exact few_of ok4 sz fun xs hx => by
                        obtain ⟨b, hb, rfl⟩ := List.mem_map.mp hx
                        exact hsi b hb
                    · exact ⟨Same.tr sN1 s16, rfl⟩
                clear due
                rintro σ' H15 ⟨s15, rfl⟩
                have rc15 := rc13.same s15
                have hst15 := s15 _ _ hst13
                have ax15 := ax13.mono (Same.but (m := st) s15)
                have smS : SmallS d := fun ds s => by
                  have := ft.small (by decide) ds s
                  exact ⟨Nat.le_trans this.1 (by decide), this.2⟩
                have fin : ∀ H16, Same H15 H16 → ∀ Q' : VK, (∀ H17, Same H16 H17 → Q' (.bl true) H17) → spSame 4 [.bl (endB ss tr (fun xs => if tr = true then stk ss xs else rfd ss xs) N d), .bl (endB ss tr (fun xs => if tr = true then stk ss xs else rfd ss xs) N d)] H16 Q' (fun _ _ _ => False) := fun H16 s16 Q' q => ⟨st, _, _, _, _, rfl, s16 _ _ hst15, .bl _, .bl _, .bl _ _, q⟩
                have rest : ∀ (H17 : Hp), Same H15 H17 → Ax st H17 x d ∧ Rcd P w st c' A Hd ns ss dH Fd bs tp Lb vs (badS ss tr (bs.map (·.1))) H17 := fun H17 s17 => ⟨ax15.mono (Same.but s17), rc15.same s17⟩
                cases tr
                · refine ⟨fN, spNev, rfl, hSN, _, rfl, _, rfl, ?_⟩
                  refine ⟨st, Hd, x, o13', ss, dH, d, N, rfl, hst15, rc15.tr.dr.nt, rc15.tr.aH, sc, ok4, ax15, smS, hN, fun H16 s16 => ?_⟩
                  refine ⟨_, rfl, ?_⟩
                  dsimp only [tNil]
                  refine fin H16 s16 _ fun H17 s17 => ?_
                  obtain ⟨ax17, rc17⟩ := rest H17 (Same.tr s16 s17)
                  refine ⟨_, rfl, iteF ?_⟩
                  refine ⟨_, rfl, ?_⟩
                  dsimp only [tNil]
                  refine ⟨st, x, d, rfl, ax17, ft.sh, (by have := ft.dp; omega), ft.txt (by decide), ?_⟩
                  refine ⟨_, rfl, rfl, _, rfl, ?_⟩
                  rw [decide_eq_true (show V.str d.shown = V.str d.shown from rfl)]
                  refine iteF ?_
                  exact ⟨⟨_, _, _, _, _, _, _, _, _, rfl⟩, rc17⟩
                · refine ⟨fF, spFre, rfl, hSF, _, rfl, _, rfl, ?_⟩
                  refine ⟨st, Hd, x, o13', ss, dH, d, N, rfl, hst15, rc15.tr.dr.nt, rc15.tr.aH, sc, ok4, ax15, smS, hN, fun H16 s16 => ?_⟩
                  refine ⟨_, rfl, ?_⟩
                  dsimp only [tNil]
                  refine fin H16 s16 _ fun H17 s17 => ?_
                  obtain ⟨ax17, rc17⟩ := rest H17 (Same.tr s16 s17)
                  refine ⟨_, rfl, iteF ?_⟩
                  refine ⟨_, rfl, ?_⟩
                  dsimp only [tNil]
                  refine ⟨st, x, d, rfl, ax17, ft.sh, (by have := ft.dp; omega), ft.txt (by decide), ?_⟩
                  refine ⟨_, rfl, rfl, _, rfl, ?_⟩
                  rw [decide_eq_true (show V.str d.shown = V.str d.shown from rfl)]
                  refine iteF ?_
                  exact ⟨⟨_, _, _, _, _, _, _, _, _, rfl⟩, rc17⟩
            · rintro σ H9 ⟨⟨o5, o6, o7, o8, o9, o13, o14, o15, o16, rfl⟩, rc9⟩
              exact ⟨⟨_, _, _, _, _, _, _, _, _, _, _, _, rfl⟩, rc9.tr, rc9.tup⟩
        · rintro σ H5 ⟨⟨o5, o6, o7, o8, o9, o10, o11, o12, o13, o14, o15, o16, rfl⟩, tr5, _⟩
          exact ⟨⟨_, _, _, _, _, _, _, _, _, _, _, _, _, _, _, rfl⟩, tr5.dr⟩
    · rintro σ H2 ⟨⟨o2, o3, o4, o5, o6, o7, o8, o9, o10, o11, o12, o13, o14, o15, o16, rfl⟩, d2⟩
      exact k _
end
end C81

set_option Elab.async false
set_option maxRecDepth 100000
set_option maxHeartbeats 4000000
set_option linter.all false
namespace C81
open PySem L2 My M78
theorem df_mk {K : PySem.W.Frag} {h : Heap} {mg : Str → Option Value} {x : Str} {st : Stmt} {ps : List Str} {f : Addr} {oc : Value} {od an : Option Addr} {osl : Array (Option Value)} {kV doc pm cdv ct : Value} (X : K.In h) (G : h.Ns mainGlobals mg)
    (a : PySem.W.nsIn K mainGlobals x = some (some (.ref f))) (l : K.lookup f = some ⟨oc, od, .func (PySem.W.fnOf x x (defArgs st) (defBody st) (defScope st) .none kV doc pm an cdv ct), osl⟩) (c : PySem.W.codeIn K cdv x = true) (k : PySem.W.keepIn K (.ref f) = true)
    (hb : ∀ (kV doc pm : Value) (an : Option Addr) (cdv ct : Value) (us : List Value), us.length = ps.length → bindArgs (PySem.W.fnOf x x (defArgs st) (defBody st) (defScope st) .none kV doc pm an cdv ct) ⟨us, []⟩ = pure (ps.zip us)) : Df K mg x st ps :=
  ⟨f, _, fun_mk l c k, (fun_mk (st := st) l c k).binds hb, PySem.W.mg_of X G a⟩
theorem all_mk {l : PySem.W.OpenLaw} {w : World} {K : PySem.W.Frag} {h : Heap} {mg : Str → Option Value} {fa : Addr} {f0 : Addr} {oc0 kV0 dc0 pm0 cd0 ct0 : Value} {od0 an0 : Option Addr} {sl0 : Array (Option Value)} {f1 : Addr} {oc1 kV1 dc1 pm1 cd1 ct1 : Value} {od1 an1 : Option Addr} {sl1 : Array (Option Value)} {f2 : Addr} {oc2 kV2 dc2 pm2 cd2 ct2 : Value} {od2 an2 : Option Addr} {sl2 : Array (Option Value)} {f3 : Addr} {oc3 kV3 dc3 pm3 cd3 ct3 : Value} {od3 an3 : Option Addr} {sl3 : Array (Option Value)} {f4 : Addr} {oc4 kV4 dc4 pm4 cd4 ct4 : Value} {od4 an4 : Option Addr} {sl4 : Array (Option Value)} {f5 : Addr} {oc5 kV5 dc5 pm5 cd5 ct5 : Value} {od5 an5 : Option Addr} {sl5 : Array (Option Value)} {f6 : Addr} {oc6 kV6 dc6 pm6 cd6 ct6 : Value} {od6 an6 : Option Addr} {sl6 : Array (Option Value)} {f7 : Addr} {oc7 kV7 dc7 pm7 cd7 ct7 : Value} {od7 an7 : Option Addr} {sl7 : Array (Option Value)} {f8 : Addr} {oc8 kV8 dc8 pm8 cd8 ct8 : Value} {od8 an8 : Option Addr} {sl8 : Array (Option Value)} {f9 : Addr} {oc9 kV9 dc9 pm9 cd9 ct9 : Value} {od9 an9 : Option Addr} {sl9 : Array (Option Value)} {f10 : Addr} {oc10 kV10 dc10 pm10 cd10 ct10 : Value} {od10 an10 : Option Addr} {sl10 : Array (Option Value)} {f11 : Addr} {oc11 kV11 dc11 pm11 cd11 ct11 : Value} {od11 an11 : Option Addr} {sl11 : Array (Option Value)} {f12 : Addr} {oc12 kV12 dc12 pm12 cd12 ct12 : Value} {od12 an12 : Option Addr} {sl12 : Array (Option Value)} {f13 : Addr} {oc13 kV13 dc13 pm13 cd13 ct13 : Value} {od13 an13 : Option Addr} {sl13 : Array (Option Value)} {f14 : Addr} {oc14 kV14 dc14 pm14 cd14 ct14 : Value} {od14 an14 : Option Addr} {sl14 : Array (Option Value)} {f15 : Addr} {oc15 kV15 dc15 pm15 cd15 ct15 : Value} {od15 an15 : Option Addr} {sl15 : Array (Option Value)} {f16 : Addr} {oc16 kV16 dc16 pm16 cd16 ct16 : Value} {od16 an16 : Option Addr} {sl16 : Array (Option Value)} {f17 : Addr} {oc17 kV17 dc17 pm17 cd17 ct17 : Value} {od17 an17 : Option Addr} {sl17 : Array (Option Value)} {f18 : Addr} {oc18 kV18 dc18 pm18 cd18 ct18 : Value} {od18 an18 : Option Addr} {sl18 : Array (Option Value)} {f19 : Addr} {oc19 kV19 dc19 pm19 cd19 ct19 : Value} {od19 an19 : Option Addr} {sl19 : Array (Option Value)} {f20 : Addr} {oc20 kV20 dc20 pm20 cd20 ct20 : Value} {od20 an20 : Option Addr} {sl20 : Array (Option Value)} {f21 : Addr} {oc21 kV21 dc21 pm21 cd21 ct21 : Value} {od21 an21 : Option Addr} {sl21 : Array (Option Value)} {f22 : Addr} {oc22 kV22 dc22 pm22 cd22 ct22 : Value} {od22 an22 : Option Addr} {sl22 : Array (Option Value)} {f23 : Addr} {oc23 kV23 dc23 pm23 cd23 ct23 : Value} {od23 an23 : Option Addr} {sl23 : Array (Option Value)} {f24 : Addr} {oc24 kV24 dc24 pm24 cd24 ct24 : Value} {od24 an24 : Option Addr} {sl24 : Array (Option Value)} {f25 : Addr} {oc25 kV25 dc25 pm25 cd25 ct25 : Value} {od25 an25 : Option Addr} {sl25 : Array (Option Value)} {f26 : Addr} {oc26 kV26 dc26 pm26 cd26 ct26 : Value} {od26 an26 : Option Addr} {sl26 : Array (Option Value)} {f27 : Addr} {oc27 kV27 dc27 pm27 cd27 ct27 : Value} {od27 an27 : Option Addr} {sl27 : Array (Option Value)} {f28 : Addr} {oc28 kV28 dc28 pm28 cd28 ct28 : Value} {od28 an28 : Option Addr} {sl28 : Array (Option Value)} {f29 : Addr} {oc29 kV29 dc29 pm29 cd29 ct29 : Value} {od29 an29 : Option Addr} {sl29 : Array (Option Value)} {f30 : Addr} {oc30 kV30 dc30 pm30 cd30 ct30 : Value} {od30 an30 : Option Addr} {sl30 : Array (Option Value)} {f31 : Addr} {oc31 kV31 dc31 pm31 cd31 ct31 : Value} {od31 an31 : Option Addr} {sl31 : Array (Option Value)} {f32 : Addr} {oc32 kV32 dc32 pm32 cd32 ct32 : Value} {od32 an32 : Option Addr} {sl32 : Array (Option Value)} {f33 : Addr} {oc33 kV33 dc33 pm33 cd33 ct33 : Value} {od33 an33 : Option Addr} {sl33 : Array (Option Value)} {f34 : Addr} {oc34 kV34 dc34 pm34 cd34 ct34 : Value} {od34 an34 : Option Addr} {sl34 : Array (Option Value)} {f35 : Addr} {oc35 kV35 dc35 pm35 cd35 ct35 : Value} {od35 an35 : Option Addr} {sl35 : Array (Option Value)} {f36 : Addr} {oc36 kV36 dc36 pm36 cd36 ct36 : Value} {od36 an36 : Option Addr} {sl36 : Array (Option Value)} {f37 : Addr} {oc37 kV37 dc37 pm37 cd37 ct37 : Value} {od37 an37 : Option Addr} {sl37 : Array (Option Value)} {f38 : Addr} {oc38 kV38 dc38 pm38 cd38 ct38 : Value} {od38 an38 : Option Addr} {sl38 : Array (Option Value)} {f39 : Addr} {oc39 kV39 dc39 pm39 cd39 ct39 : Value} {od39 an39 : Option Addr} {sl39 : Array (Option Value)} {f40 : Addr} {oc40 kV40 dc40 pm40 cd40 ct40 : Value} {od40 an40 : Option Addr} {sl40 : Array (Option Value)} {f41 : Addr} {oc41 kV41 dc41 pm41 cd41 ct41 : Value} {od41 an41 : Option Addr} {sl41 : Array (Option Value)} {f42 : Addr} {oc42 kV42 dc42 pm42 cd42 ct42 : Value} {od42 an42 : Option Addr} {sl42 : Array (Option Value)} {f43 : Addr} {oc43 kV43 dc43 pm43 cd43 ct43 : Value} {od43 an43 : Option Addr} {sl43 : Array (Option Value)} {f44 : Addr} {oc44 kV44 dc44 pm44 cd44 ct44 : Value} {od44 an44 : Option Addr} {sl44 : Array (Option Value)} {f45 : Addr} {oc45 kV45 dc45 pm45 cd45 ct45 : Value} {od45 an45 : Option Addr} {sl45 : Array (Option Value)} {f46 : Addr} {oc46 kV46 dc46 pm46 cd46 ct46 : Value} {od46 an46 : Option Addr} {sl46 : Array (Option Value)} {f47 : Addr} {oc47 kV47 dc47 pm47 cd47 ct47 : Value} {od47 an47 : Option Addr} {sl47 : Array (Option Value)} (X : K.In h) (G : h.Ns mainGlobals mg) (hfa : mg "law" = some (.ref fa))
    (a0 : PySem.W.nsIn K mainGlobals "is_list" = some (some (.ref f0))) (l0 : K.lookup f0 = some ⟨oc0, od0, .func (PySem.W.fnOf "is_list" "is_list" (defArgs sIsList) (defBody sIsList) (defScope sIsList) .none kV0 dc0 pm0 an0 cd0 ct0), sl0⟩) (c0 : PySem.W.codeIn K cd0 "is_list" = true) (k0 : PySem.W.keepIn K (.ref f0) = true)
    (a1 : PySem.W.nsIn K mainGlobals "is_script" = some (some (.ref f1))) (l1 : K.lookup f1 = some ⟨oc1, od1, .func (PySem.W.fnOf "is_script" "is_script" (defArgs sIsScript) (defBody sIsScript) (defScope sIsScript) .none kV1 dc1 pm1 an1 cd1 ct1), sl1⟩) (c1 : PySem.W.codeIn K cd1 "is_script" = true) (k1 : PySem.W.keepIn K (.ref f1) = true)
    (a2 : PySem.W.nsIn K mainGlobals "checked" = some (some (.ref f2))) (l2 : K.lookup f2 = some ⟨oc2, od2, .func (PySem.W.fnOf "checked" "checked" (defArgs sChecked) (defBody sChecked) (defScope sChecked) .none kV2 dc2 pm2 an2 cd2 ct2), sl2⟩) (c2 : PySem.W.codeIn K cd2 "checked" = true) (k2 : PySem.W.keepIn K (.ref f2) = true)
    (a3 : PySem.W.nsIn K mainGlobals "first_state" = some (some (.ref f3))) (l3 : K.lookup f3 = some ⟨oc3, od3, .func (PySem.W.fnOf "first_state" "first_state" (defArgs sFirst) (defBody sFirst) (defScope sFirst) .none kV3 dc3 pm3 an3 cd3 ct3), sl3⟩) (c3 : PySem.W.codeIn K cd3 "first_state" = true) (k3 : PySem.W.keepIn K (.ref f3) = true)
    (a4 : PySem.W.nsIn K mainGlobals "resting" = some (some (.ref f4))) (l4 : K.lookup f4 = some ⟨oc4, od4, .func (PySem.W.fnOf "resting" "resting" (defArgs sRest) (defBody sRest) (defScope sRest) .none kV4 dc4 pm4 an4 cd4 ct4), sl4⟩) (c4 : PySem.W.codeIn K cd4 "resting" = true) (k4 : PySem.W.keepIn K (.ref f4) = true)
    (a5 : PySem.W.nsIn K mainGlobals "opened_lock" = some (some (.ref f5))) (l5 : K.lookup f5 = some ⟨oc5, od5, .func (PySem.W.fnOf "opened_lock" "opened_lock" (defArgs sOpen) (defBody sOpen) (defScope sOpen) .none kV5 dc5 pm5 an5 cd5 ct5), sl5⟩) (c5 : PySem.W.codeIn K cd5 "opened_lock" = true) (k5 : PySem.W.keepIn K (.ref f5) = true)
    (a6 : PySem.W.nsIn K mainGlobals "working_lock" = some (some (.ref f6))) (l6 : K.lookup f6 = some ⟨oc6, od6, .func (PySem.W.fnOf "working_lock" "working_lock" (defArgs sWork) (defBody sWork) (defScope sWork) .none kV6 dc6 pm6 an6 cd6 ct6), sl6⟩) (c6 : PySem.W.codeIn K cd6 "working_lock" = true) (k6 : PySem.W.keepIn K (.ref f6) = true)
    (a7 : PySem.W.nsIn K mainGlobals "tried" = some (some (.ref f7))) (l7 : K.lookup f7 = some ⟨oc7, od7, .func (PySem.W.fnOf "tried" "tried" (defArgs sTried) (defBody sTried) (defScope sTried) .none kV7 dc7 pm7 an7 cd7 ct7), sl7⟩) (c7 : PySem.W.codeIn K cd7 "tried" = true) (k7 : PySem.W.keepIn K (.ref f7) = true)
    (a8 : PySem.W.nsIn K mainGlobals "moved" = some (some (.ref f8))) (l8 : K.lookup f8 = some ⟨oc8, od8, .func (PySem.W.fnOf "moved" "moved" (defArgs sMoved) (defBody sMoved) (defScope sMoved) .none kV8 dc8 pm8 an8 cd8 ct8), sl8⟩) (c8 : PySem.W.codeIn K cd8 "moved" = true) (k8 : PySem.W.keepIn K (.ref f8) = true)
    (a9 : PySem.W.nsIn K mainGlobals "waiting_ones" = some (some (.ref f9))) (l9 : K.lookup f9 = some ⟨oc9, od9, .func (PySem.W.fnOf "waiting_ones" "waiting_ones" (defArgs sWait) (defBody sWait) (defScope sWait) .none kV9 dc9 pm9 an9 cd9 ct9), sl9⟩) (c9 : PySem.W.codeIn K cd9 "waiting_ones" = true) (k9 : PySem.W.keepIn K (.ref f9) = true)
    (a10 : PySem.W.nsIn K mainGlobals "way_to" = some (some (.ref f10))) (l10 : K.lookup f10 = some ⟨oc10, od10, .func (PySem.W.fnOf "way_to" "way_to" (defArgs sWay) (defBody sWay) (defScope sWay) .none kV10 dc10 pm10 an10 cd10 ct10), sl10⟩) (c10 : PySem.W.codeIn K cd10 "way_to" = true) (k10 : PySem.W.keepIn K (.ref f10) = true)
    (a11 : PySem.W.nsIn K mainGlobals "refusal" = some (some (.ref f11))) (l11 : K.lookup f11 = some ⟨oc11, od11, .func (PySem.W.fnOf "refusal" "refusal" (defArgs sRfs) (defBody sRfs) (defScope sRfs) .none kV11 dc11 pm11 an11 cd11 ct11), sl11⟩) (c11 : PySem.W.codeIn K cd11 "refusal" = true) (k11 : PySem.W.keepIn K (.ref f11) = true)
    (a12 : PySem.W.nsIn K mainGlobals "is_stuck_state" = some (some (.ref f12))) (l12 : K.lookup f12 = some ⟨oc12, od12, .func (PySem.W.fnOf "is_stuck_state" "is_stuck_state" (defArgs sIss) (defBody sIss) (defScope sIss) .none kV12 dc12 pm12 an12 cd12 ct12), sl12⟩) (c12 : PySem.W.codeIn K cd12 "is_stuck_state" = true) (k12 : PySem.W.keepIn K (.ref f12) = true)
    (a13 : PySem.W.nsIn K mainGlobals "stuck" = some (some (.ref f13))) (l13 : K.lookup f13 = some ⟨oc13, od13, .func (PySem.W.fnOf "stuck" "stuck" (defArgs sStk) (defBody sStk) (defScope sStk) .none kV13 dc13 pm13 an13 cd13 ct13), sl13⟩) (c13 : PySem.W.codeIn K cd13 "stuck" = true) (k13 : PySem.W.keepIn K (.ref f13) = true)
    (a14 : PySem.W.nsIn K mainGlobals "is_number" = some (some (.ref f14))) (l14 : K.lookup f14 = some ⟨oc14, od14, .func (PySem.W.fnOf "is_number" "is_number" (defArgs sNum) (defBody sNum) (defScope sNum) .none kV14 dc14 pm14 an14 cd14 ct14), sl14⟩) (c14 : PySem.W.codeIn K cd14 "is_number" = true) (k14 : PySem.W.keepIn K (.ref f14) = true)
    (a15 : PySem.W.nsIn K mainGlobals "is_order" = some (some (.ref f15))) (l15 : K.lookup f15 = some ⟨oc15, od15, .func (PySem.W.fnOf "is_order" "is_order" (defArgs sIsO) (defBody sIsO) (defScope sIsO) .none kV15 dc15 pm15 an15 cd15 ct15), sl15⟩) (c15 : PySem.W.codeIn K cd15 "is_order" = true) (k15 : PySem.W.keepIn K (.ref f15) = true)
    (a16 : PySem.W.nsIn K mainGlobals "is_stuck" = some (some (.ref f16))) (l16 : K.lookup f16 = some ⟨oc16, od16, .func (PySem.W.fnOf "is_stuck" "is_stuck" (defArgs sIsS) (defBody sIsS) (defScope sIsS) .none kV16 dc16 pm16 an16 cd16 ct16), sl16⟩) (c16 : PySem.W.codeIn K cd16 "is_stuck" = true) (k16 : PySem.W.keepIn K (.ref f16) = true)
    (a17 : PySem.W.nsIn K mainGlobals "is_state_row" = some (some (.ref f17))) (l17 : K.lookup f17 = some ⟨oc17, od17, .func (PySem.W.fnOf "is_state_row" "is_state_row" (defArgs sIsR) (defBody sIsR) (defScope sIsR) .none kV17 dc17 pm17 an17 cd17 ct17), sl17⟩) (c17 : PySem.W.codeIn K cd17 "is_state_row" = true) (k17 : PySem.W.keepIn K (.ref f17) = true)
    (a18 : PySem.W.nsIn K mainGlobals "is_all_of" = some (some (.ref f18))) (l18 : K.lookup f18 = some ⟨oc18, od18, .func (PySem.W.fnOf "is_all_of" "is_all_of" (defArgs sAll) (defBody sAll) (defScope sAll) .none kV18 dc18 pm18 an18 cd18 ct18), sl18⟩) (c18 : PySem.W.codeIn K cd18 "is_all_of" = true) (k18 : PySem.W.keepIn K (.ref f18) = true)
    (a19 : PySem.W.nsIn K mainGlobals "is_never" = some (some (.ref f19))) (l19 : K.lookup f19 = some ⟨oc19, od19, .func (PySem.W.fnOf "is_never" "is_never" (defArgs sNev) (defBody sNev) (defScope sNev) .none kV19 dc19 pm19 an19 cd19 ct19), sl19⟩) (c19 : PySem.W.codeIn K cd19 "is_never" = true) (k19 : PySem.W.keepIn K (.ref f19) = true)
    (a20 : PySem.W.nsIn K mainGlobals "is_free" = some (some (.ref f20))) (l20 : K.lookup f20 = some ⟨oc20, od20, .func (PySem.W.fnOf "is_free" "is_free" (defArgs sFre) (defBody sFre) (defScope sFre) .none kV20 dc20 pm20 an20 cd20 ct20), sl20⟩) (c20 : PySem.W.codeIn K cd20 "is_free" = true) (k20 : PySem.W.keepIn K (.ref f20) = true)
    (a21 : PySem.W.nsIn K mainGlobals "_law_fresh" = some (some (.ref f21))) (l21 : K.lookup f21 = some ⟨oc21, od21, .func (PySem.W.fnOf "_law_fresh" "_law_fresh" (defArgs sFresh) (defBody sFresh) (defScope sFresh) .none kV21 dc21 pm21 an21 cd21 ct21), sl21⟩) (c21 : PySem.W.codeIn K cd21 "_law_fresh" = true) (k21 : PySem.W.keepIn K (.ref f21) = true)
    (a22 : PySem.W.nsIn K mainGlobals "_law_fill" = some (some (.ref f22))) (l22 : K.lookup f22 = some ⟨oc22, od22, .func (PySem.W.fnOf "_law_fill" "_law_fill" (defArgs sFill) (defBody sFill) (defScope sFill) .none kV22 dc22 pm22 an22 cd22 ct22), sl22⟩) (c22 : PySem.W.codeIn K cd22 "_law_fill" = true) (k22 : PySem.W.keepIn K (.ref f22) = true)
    (a23 : PySem.W.nsIn K mainGlobals "_law_take" = some (some (.ref f23))) (l23 : K.lookup f23 = some ⟨oc23, od23, .func (PySem.W.fnOf "_law_take" "_law_take" (defArgs sTake) (defBody sTake) (defScope sTake) .none kV23 dc23 pm23 an23 cd23 ct23), sl23⟩) (c23 : PySem.W.codeIn K cd23 "_law_take" = true) (k23 : PySem.W.keepIn K (.ref f23) = true)
    (a24 : PySem.W.nsIn K mainGlobals "_law_one" = some (some (.ref f24))) (l24 : K.lookup f24 = some ⟨oc24, od24, .func (PySem.W.fnOf "_law_one" "_law_one" (defArgs sOne) (defBody sOne) (defScope sOne) .none kV24 dc24 pm24 an24 cd24 ct24), sl24⟩) (c24 : PySem.W.codeIn K cd24 "_law_one" = true) (k24 : PySem.W.keepIn K (.ref f24) = true)
    (a25 : PySem.W.nsIn K mainGlobals "_law_mix" = some (some (.ref f25))) (l25 : K.lookup f25 = some ⟨oc25, od25, .func (PySem.W.fnOf "_law_mix" "_law_mix" (defArgs sMix) (defBody sMix) (defScope sMix) .none kV25 dc25 pm25 an25 cd25 ct25), sl25⟩) (c25 : PySem.W.codeIn K cd25 "_law_mix" = true) (k25 : PySem.W.keepIn K (.ref f25) = true)
    (a26 : PySem.W.nsIn K mainGlobals "_law_same" = some (some (.ref f26))) (l26 : K.lookup f26 = some ⟨oc26, od26, .func (PySem.W.fnOf "_law_same" "_law_same" (defArgs sSame) (defBody sSame) (defScope sSame) .none kV26 dc26 pm26 an26 cd26 ct26), sl26⟩) (c26 : PySem.W.codeIn K cd26 "_law_same" = true) (k26 : PySem.W.keepIn K (.ref f26) = true)
    (a27 : PySem.W.nsIn K mainGlobals "_law_script" = some (some (.ref f27))) (l27 : K.lookup f27 = some ⟨oc27, od27, .func (PySem.W.fnOf "_law_script" "_law_script" (defArgs sScript) (defBody sScript) (defScope sScript) .none kV27 dc27 pm27 an27 cd27 ct27), sl27⟩) (c27 : PySem.W.codeIn K cd27 "_law_script" = true) (k27 : PySem.W.keepIn K (.ref f27) = true)
    (a28 : PySem.W.nsIn K mainGlobals "_law_scripts" = some (some (.ref f28))) (l28 : K.lookup f28 = some ⟨oc28, od28, .func (PySem.W.fnOf "_law_scripts" "_law_scripts" (defArgs sScripts) (defBody sScripts) (defScope sScripts) .none kV28 dc28 pm28 an28 cd28 ct28), sl28⟩) (c28 : PySem.W.codeIn K cd28 "_law_scripts" = true) (k28 : PySem.W.keepIn K (.ref f28) = true)
    (a29 : PySem.W.nsIn K mainGlobals "_law_refused" = some (some (.ref f29))) (l29 : K.lookup f29 = some ⟨oc29, od29, .func (PySem.W.fnOf "_law_refused" "_law_refused" (defArgs sRefused) (defBody sRefused) (defScope sRefused) .none kV29 dc29 pm29 an29 cd29 ct29), sl29⟩) (c29 : PySem.W.codeIn K cd29 "_law_refused" = true) (k29 : PySem.W.keepIn K (.ref f29) = true)
    (a30 : PySem.W.nsIn K mainGlobals "_law_behind" = some (some (.ref f30))) (l30 : K.lookup f30 = some ⟨oc30, od30, .func (PySem.W.fnOf "_law_behind" "_law_behind" (defArgs sBehind) (defBody sBehind) (defScope sBehind) .none kV30 dc30 pm30 an30 cd30 ct30), sl30⟩) (c30 : PySem.W.codeIn K cd30 "_law_behind" = true) (k30 : PySem.W.keepIn K (.ref f30) = true)
    (a31 : PySem.W.nsIn K mainGlobals "_law_after" = some (some (.ref f31))) (l31 : K.lookup f31 = some ⟨oc31, od31, .func (PySem.W.fnOf "_law_after" "_law_after" (defArgs sAfter) (defBody sAfter) (defScope sAfter) .none kV31 dc31 pm31 an31 cd31 ct31), sl31⟩) (c31 : PySem.W.codeIn K cd31 "_law_after" = true) (k31 : PySem.W.keepIn K (.ref f31) = true)
    (a32 : PySem.W.nsIn K mainGlobals "_law_begun" = some (some (.ref f32))) (l32 : K.lookup f32 = some ⟨oc32, od32, .func (PySem.W.fnOf "_law_begun" "_law_begun" (defArgs sBegun) (defBody sBegun) (defScope sBegun) .none kV32 dc32 pm32 an32 cd32 ct32), sl32⟩) (c32 : PySem.W.codeIn K cd32 "_law_begun" = true) (k32 : PySem.W.keepIn K (.ref f32) = true)
    (a33 : PySem.W.nsIn K mainGlobals "_law_left" = some (some (.ref f33))) (l33 : K.lookup f33 = some ⟨oc33, od33, .func (PySem.W.fnOf "_law_left" "_law_left" (defArgs sLeft) (defBody sLeft) (defScope sLeft) .none kV33 dc33 pm33 an33 cd33 ct33), sl33⟩) (c33 : PySem.W.codeIn K cd33 "_law_left" = true) (k33 : PySem.W.keepIn K (.ref f33) = true)
    (a34 : PySem.W.nsIn K mainGlobals "_law_reached" = some (some (.ref f34))) (l34 : K.lookup f34 = some ⟨oc34, od34, .func (PySem.W.fnOf "_law_reached" "_law_reached" (defArgs sRch) (defBody sRch) (defScope sRch) .none kV34 dc34 pm34 an34 cd34 ct34), sl34⟩) (c34 : PySem.W.codeIn K cd34 "_law_reached" = true) (k34 : PySem.W.keepIn K (.ref f34) = true)
    (a35 : PySem.W.nsIn K mainGlobals "_law_any_refused" = some (some (.ref f35))) (l35 : K.lookup f35 = some ⟨oc35, od35, .func (PySem.W.fnOf "_law_any_refused" "_law_any_refused" (defArgs sAny) (defBody sAny) (defScope sAny) .none kV35 dc35 pm35 an35 cd35 ct35), sl35⟩) (c35 : PySem.W.codeIn K cd35 "_law_any_refused" = true) (k35 : PySem.W.keepIn K (.ref f35) = true)
    (a36 : PySem.W.nsIn K mainGlobals "_law_is_stuck" = some (some (.ref f36))) (l36 : K.lookup f36 = some ⟨oc36, od36, .func (PySem.W.fnOf "_law_is_stuck" "_law_is_stuck" (defArgs sLs) (defBody sLs) (defScope sLs) .none kV36 dc36 pm36 an36 cd36 ct36), sl36⟩) (c36 : PySem.W.codeIn K cd36 "_law_is_stuck" = true) (k36 : PySem.W.keepIn K (.ref f36) = true)
    (a37 : PySem.W.nsIn K mainGlobals "_law_handed" = some (some (.ref f37))) (l37 : K.lookup f37 = some ⟨oc37, od37, .func (PySem.W.fnOf "_law_handed" "_law_handed" (defArgs sHanded) (defBody sHanded) (defScope sHanded) .none kV37 dc37 pm37 an37 cd37 ct37), sl37⟩) (c37 : PySem.W.codeIn K cd37 "_law_handed" = true) (k37 : PySem.W.keepIn K (.ref f37) = true)
    (a38 : PySem.W.nsIn K mainGlobals "_law_odd" = some (some (.ref f38))) (l38 : K.lookup f38 = some ⟨oc38, od38, .func (PySem.W.fnOf "_law_odd" "_law_odd" (defArgs sOdd) (defBody sOdd) (defScope sOdd) .none kV38 dc38 pm38 an38 cd38 ct38), sl38⟩) (c38 : PySem.W.codeIn K cd38 "_law_odd" = true) (k38 : PySem.W.keepIn K (.ref f38) = true)
    (a39 : PySem.W.nsIn K mainGlobals "_law_state_of" = some (some (.ref f39))) (l39 : K.lookup f39 = some ⟨oc39, od39, .func (PySem.W.fnOf "_law_state_of" "_law_state_of" (defArgs sSto) (defBody sSto) (defScope sSto) .none kV39 dc39 pm39 an39 cd39 ct39), sl39⟩) (c39 : PySem.W.codeIn K cd39 "_law_state_of" = true) (k39 : PySem.W.keepIn K (.ref f39) = true)
    (a40 : PySem.W.nsIn K mainGlobals "_law_readers" = some (some (.ref f40))) (l40 : K.lookup f40 = some ⟨oc40, od40, .func (PySem.W.fnOf "_law_readers" "_law_readers" (defArgs sRdr) (defBody sRdr) (defScope sRdr) .none kV40 dc40 pm40 an40 cd40 ct40), sl40⟩) (c40 : PySem.W.codeIn K cd40 "_law_readers" = true) (k40 : PySem.W.keepIn K (.ref f40) = true)
    (a41 : PySem.W.nsIn K mainGlobals "_law_walked" = some (some (.ref f41))) (l41 : K.lookup f41 = some ⟨oc41, od41, .func (PySem.W.fnOf "_law_walked" "_law_walked" (defArgs sWlk) (defBody sWlk) (defScope sWlk) .none kV41 dc41 pm41 an41 cd41 ct41), sl41⟩) (c41 : PySem.W.codeIn K cd41 "_law_walked" = true) (k41 : PySem.W.keepIn K (.ref f41) = true)
    (a42 : PySem.W.nsIn K mainGlobals "_law_are_all" = some (some (.ref f42))) (l42 : K.lookup f42 = some ⟨oc42, od42, .func (PySem.W.fnOf "_law_are_all" "_law_are_all" (defArgs sAre) (defBody sAre) (defScope sAre) .none kV42 dc42 pm42 an42 cd42 ct42), sl42⟩) (c42 : PySem.W.codeIn K cd42 "_law_are_all" = true) (k42 : PySem.W.keepIn K (.ref f42) = true)
    (a43 : PySem.W.nsIn K mainGlobals "_law_drawn_order" = some (some (.ref f43))) (l43 : K.lookup f43 = some ⟨oc43, od43, .func (PySem.W.fnOf "_law_drawn_order" "_law_drawn_order" (defArgs sDro) (defBody sDro) (defScope sDro) .none kV43 dc43 pm43 an43 cd43 ct43), sl43⟩) (c43 : PySem.W.codeIn K cd43 "_law_drawn_order" = true) (k43 : PySem.W.keepIn K (.ref f43) = true)
    (a44 : PySem.W.nsIn K mainGlobals "_law_bent_order" = some (some (.ref f44))) (l44 : K.lookup f44 = some ⟨oc44, od44, .func (PySem.W.fnOf "_law_bent_order" "_law_bent_order" (defArgs sBo) (defBody sBo) (defScope sBo) .none kV44 dc44 pm44 an44 cd44 ct44), sl44⟩) (c44 : PySem.W.codeIn K cd44 "_law_bent_order" = true) (k44 : PySem.W.keepIn K (.ref f44) = true)
    (a45 : PySem.W.nsIn K mainGlobals "_law_bent_state" = some (some (.ref f45))) (l45 : K.lookup f45 = some ⟨oc45, od45, .func (PySem.W.fnOf "_law_bent_state" "_law_bent_state" (defArgs sBs) (defBody sBs) (defScope sBs) .none kV45 dc45 pm45 an45 cd45 ct45), sl45⟩) (c45 : PySem.W.codeIn K cd45 "_law_bent_state" = true) (k45 : PySem.W.keepIn K (.ref f45) = true)
    (a46 : PySem.W.nsIn K mainGlobals "_law_bent_states" = some (some (.ref f46))) (l46 : K.lookup f46 = some ⟨oc46, od46, .func (PySem.W.fnOf "_law_bent_states" "_law_bent_states" (defArgs sBst) (defBody sBst) (defScope sBst) .none kV46 dc46 pm46 an46 cd46 ct46), sl46⟩) (c46 : PySem.W.codeIn K cd46 "_law_bent_states" = true) (k46 : PySem.W.keepIn K (.ref f46) = true)
    (a47 : PySem.W.nsIn K mainGlobals "law" = some (some (.ref f47))) (l47 : K.lookup f47 = some ⟨oc47, od47, .func (PySem.W.fnOf "law" "law" (defArgs sLaw) (defBody sLaw) (defScope sLaw) .none kV47 dc47 pm47 an47 cd47 ct47), sl47⟩) (c47 : PySem.W.codeIn K cd47 "law" = true) (k47 : PySem.W.keepIn K (.ref f47) = true)
    (z_len : PySem.W.nsIn K mainGlobals "len" = some none)
    (z_int : PySem.W.nsIn K mainGlobals "int" = some none)
    (z_enumerate : PySem.W.nsIn K mainGlobals "enumerate" = some none)
    (z_bool : PySem.W.nsIn K mainGlobals "bool" = some none)
    (z_list : PySem.W.nsIn K mainGlobals "list" = some none)
    (z_tuple : PySem.W.nsIn K mainGlobals "tuple" = some none)
    (z_isinstance : PySem.W.nsIn K mainGlobals "isinstance" = some none)
    (z_all : PySem.W.nsIn K mainGlobals "all" = some none)
    (z_zip : PySem.W.nsIn K mainGlobals "zip" = some none)
    (z_range : PySem.W.nsIn K mainGlobals "range" = some none)
    (z_max : PySem.W.nsIn K mainGlobals "max" = some none)
    (z_min : PySem.W.nsIn K mainGlobals "min" = some none)
    (z_str : PySem.W.nsIn K mainGlobals "str" = some none)
    (z_repr : PySem.W.nsIn K mainGlobals "repr" = some none)
    (z_sorted : PySem.W.nsIn K mainGlobals "sorted" = some none)
    (z_any : PySem.W.nsIn K mainGlobals "any" = some none)
    (z_set : PySem.W.nsIn K mainGlobals "set" = some none)
    {t_NO_LOCK : Tok} (tNO_LOCK : PySem.W.nsIn K mainGlobals "NO_LOCK" = some (some (.int 0 t_NO_LOCK)))
    {t_SHARED : Tok} (tSHARED : PySem.W.nsIn K mainGlobals "SHARED" = some (some (.int 1 t_SHARED)))
    {t_RESERVED : Tok} (tRESERVED : PySem.W.nsIn K mainGlobals "RESERVED" = some (some (.int 2 t_RESERVED)))
    {t_PENDING : Tok} (tPENDING : PySem.W.nsIn K mainGlobals "PENDING" = some (some (.int 3 t_PENDING)))
    {t_EXCLUSIVE : Tok} (tEXCLUSIVE : PySem.W.nsIn K mainGlobals "EXCLUSIVE" = some (some (.int 4 t_EXCLUSIVE)))
    {aTOPENING : Addr} {oTOPENING : Option Addr} {nTOPENING : Nat} {sTOPENING : Array (Option Value)} {qOPENING0 qOPENING1 qOPENING2 : Tok} (tTOPENING : PySem.W.nsIn K mainGlobals "OPENING" = some (some (.ref aTOPENING))) (lTOPENING : K.lookup aTOPENING = some ⟨.type "tuple", oTOPENING, .seq #[.str (Str.ofString "begin") qOPENING0, .str (Str.ofString "immediate") qOPENING1, .str (Str.ofString "exclusive") qOPENING2] nTOPENING, sTOPENING⟩)
    {aTENDING : Addr} {oTENDING : Option Addr} {nTENDING : Nat} {sTENDING : Array (Option Value)} {qENDING0 qENDING1 : Tok} (tTENDING : PySem.W.nsIn K mainGlobals "ENDING" = some (some (.ref aTENDING))) (lTENDING : K.lookup aTENDING = some ⟨.type "tuple", oTENDING, .seq #[.str (Str.ofString "commit") qENDING0, .str (Str.ofString "rollback") qENDING1] nTENDING, sTENDING⟩)
    {aTOTHERS : Addr} {oTOTHERS : Option Addr} {nTOTHERS : Nat} {sTOTHERS : Array (Option Value)} {qOTHERS0 qOTHERS1 qOTHERS2 qOTHERS3 : Tok} (tTOTHERS : PySem.W.nsIn K mainGlobals "OTHERS" = some (some (.ref aTOTHERS))) (lTOTHERS : K.lookup aTOTHERS = some ⟨.type "tuple", oTOTHERS, .seq #[.str (Str.ofString "read") qOTHERS0, .str (Str.ofString "start") qOTHERS1, .str (Str.ofString "stop") qOTHERS2, .str (Str.ofString "write") qOTHERS3] nTOTHERS, sTOTHERS⟩) :
    ∃ fd : FuncData, (∀ (s : Shared) (v : Value), BindsTo s fd ⟨[v], []⟩ [("_law_script_here", v)]) ∧ ∀ base : Heap, K.In base → base.Ns mainGlobals mg → FnG l.prog w K mg base 8 fa fd ["_law_script_here"] (spLaw K) := by
  have e := hfa.symm.trans (PySem.W.mg_of X G a47)
  cases e
  have T : Tx mg := ⟨PySem.W.mg_none_of X G z_len, PySem.W.mg_none_of X G z_int, PySem.W.mg_none_of X G z_enumerate⟩
  have T2 : Ty mg := ⟨PySem.W.mg_none_of X G z_len, PySem.W.mg_none_of X G z_int, PySem.W.mg_none_of X G z_bool, PySem.W.mg_none_of X G z_list, PySem.W.mg_none_of X G z_tuple, PySem.W.mg_none_of X G z_isinstance, PySem.W.mg_none_of X G z_all, PySem.W.mg_none_of X G z_zip⟩
  have Tk0 : Tk K mg := ⟨⟨_, PySem.W.mg_of X G tNO_LOCK⟩, ⟨_, PySem.W.mg_of X G tSHARED⟩, ⟨_, PySem.W.mg_of X G tRESERVED⟩, ⟨_, PySem.W.mg_of X G tPENDING⟩, ⟨_, PySem.W.mg_of X G tEXCLUSIVE⟩, ⟨aTOPENING, PySem.W.mg_of X G tTOPENING, fun H => .inr ⟨_, _, _, lTOPENING, rfl, rfl, (by show 3 ≤ sizeLine; decide), .cons ⟨_, rfl⟩ (.cons ⟨_, rfl⟩ (.cons ⟨_, rfl⟩ .nil))⟩⟩, ⟨aTENDING, PySem.W.mg_of X G tTENDING, fun H => .inr ⟨_, _, _, lTENDING, rfl, rfl, (by show 2 ≤ sizeLine; decide), .cons ⟨_, rfl⟩ (.cons ⟨_, rfl⟩ .nil)⟩⟩, ⟨aTOTHERS, PySem.W.mg_of X G tTOTHERS, fun H => .inr ⟨_, _, _, lTOTHERS, rfl, rfl, (by show 4 ≤ sizeLine; decide), .cons ⟨_, rfl⟩ (.cons ⟨_, rfl⟩ (.cons ⟨_, rfl⟩ (.cons ⟨_, rfl⟩ .nil)))⟩⟩, PySem.W.mg_none_of X G z_max⟩
  have Tw0 : Tw mg := ⟨PySem.W.mg_none_of X G z_range, PySem.W.mg_none_of X G z_repr⟩
  have D0 : Df K mg "is_list" sIsList ["thing"] := df_mk X G a0 l0 c0 k0 fun _ _ _ _ _ _ us hl => match us, hl with | [_], _ => rfl
  have D1 : Df K mg "is_script" sIsScript ["thing"] := df_mk X G a1 l1 c1 k1 fun _ _ _ _ _ _ us hl => match us, hl with | [_], _ => rfl
  have D2 : Df K mg "checked" sChecked ["scripts"] := df_mk X G a2 l2 c2 k2 fun _ _ _ _ _ _ us hl => match us, hl with | [_], _ => rfl
  have D3 : Df K mg "first_state" sFirst ["scripts"] := df_mk X G a3 l3 c3 k3 fun _ _ _ _ _ _ us hl => match us, hl with | [_], _ => rfl
  have D4 : Df K mg "resting" sRest ["reads"] := df_mk X G a4 l4 c4 k4 fun _ _ _ _ _ _ us hl => match us, hl with | [_], _ => rfl
  have D5 : Df K mg "opened_lock" sOpen ["step", "lock", "other"] := df_mk X G a5 l5 c5 k5 fun _ _ _ _ _ _ us hl => match us, hl with | [_, _, _], _ => rfl
  have D6 : Df K mg "working_lock" sWork ["step", "row", "other"] := df_mk X G a6 l6 c6 k6 fun _ _ _ _ _ _ us hl => match us, hl with | [_, _, _], _ => rfl
  have D7 : Df K mg "tried" sTried ["step", "row", "other"] := df_mk X G a7 l7 c7 k7 fun _ _ _ _ _ _ us hl => match us, hl with | [_, _, _], _ => rfl
  have D8 : Df K mg "moved" sMoved ["scripts", "state", "at"] := df_mk X G a8 l8 c8 k8 fun _ _ _ _ _ _ us hl => match us, hl with | [_, _, _], _ => rfl
  have D9 : Df K mg "waiting_ones" sWait ["scripts", "state"] := df_mk X G a9 l9 c9 k9 fun _ _ _ _ _ _ us hl => match us, hl with | [_, _], _ => rfl
  have D10 : Df K mg "way_to" sWay ["before", "state"] := df_mk X G a10 l10 c10 k10 fun _ _ _ _ _ _ us hl => match us, hl with | [_, _], _ => rfl
  have D11 : Df K mg "refusal" sRfs ["scripts"] := df_mk X G a11 l11 c11 k11 fun _ _ _ _ _ _ us hl => match us, hl with | [_], _ => rfl
  have D12 : Df K mg "is_stuck_state" sIss ["scripts", "state"] := df_mk X G a12 l12 c12 k12 fun _ _ _ _ _ _ us hl => match us, hl with | [_, _], _ => rfl
  have D13 : Df K mg "stuck" sStk ["scripts"] := df_mk X G a13 l13 c13 k13 fun _ _ _ _ _ _ us hl => match us, hl with | [_], _ => rfl
  have D14 : Df K mg "is_number" sNum ["thing", "many"] := df_mk X G a14 l14 c14 k14 fun _ _ _ _ _ _ us hl => match us, hl with | [_, _], _ => rfl
  have D15 : Df K mg "is_order" sIsO ["scripts", "order"] := df_mk X G a15 l15 c15 k15 fun _ _ _ _ _ _ us hl => match us, hl with | [_, _], _ => rfl
  have D16 : Df K mg "is_stuck" sIsS ["scripts", "order"] := df_mk X G a16 l16 c16 k16 fun _ _ _ _ _ _ us hl => match us, hl with | [_, _], _ => rfl
  have D17 : Df K mg "is_state_row" sIsR ["thing"] := df_mk X G a17 l17 c17 k17 fun _ _ _ _ _ _ us hl => match us, hl with | [_], _ => rfl
  have D18 : Df K mg "is_all_of" sAll ["states", "due"] := df_mk X G a18 l18 c18 k18 fun _ _ _ _ _ _ us hl => match us, hl with | [_, _], _ => rfl
  have D19 : Df K mg "is_never" sNev ["scripts", "states"] := df_mk X G a19 l19 c19 k19 fun _ _ _ _ _ _ us hl => match us, hl with | [_, _], _ => rfl
  have D20 : Df K mg "is_free" sFre ["scripts", "states"] := df_mk X G a20 l20 c20 k20 fun _ _ _ _ _ _ us hl => match us, hl with | [_, _], _ => rfl
  have D21 : Df K mg "_law_fresh" sFresh ["_law_script_here"] := df_mk X G a21 l21 c21 k21 fun _ _ _ _ _ _ us hl => match us, hl with | [_], _ => rfl
  have D22 : Df K mg "_law_fill" sFill ["_law_state"] := df_mk X G a22 l22 c22 k22 fun _ _ _ _ _ _ us hl => match us, hl with | [_], _ => rfl
  have D23 : Df K mg "_law_take" sTake ["_law_state", "_law_many"] := df_mk X G a23 l23 c23 k23 fun _ _ _ _ _ _ us hl => match us, hl with | [_, _], _ => rfl
  have D24 : Df K mg "_law_one" sOne ["_law_state", "_law_things"] := df_mk X G a24 l24 c24 k24 fun _ _ _ _ _ _ us hl => match us, hl with | [_, _], _ => rfl
  have D25 : Df K mg "_law_mix" sMix ["_law_state", "_law_things"] := df_mk X G a25 l25 c25 k25 fun _ _ _ _ _ _ us hl => match us, hl with | [_, _], _ => rfl
  have D26 : Df K mg "_law_same" sSame ["_law_found", "_law_due"] := df_mk X G a26 l26 c26 k26 fun _ _ _ _ _ _ us hl => match us, hl with | [_, _], _ => rfl
  have D27 : Df K mg "_law_script" sScript ["_law_state", "_law_many"] := df_mk X G a27 l27 c27 k27 fun _ _ _ _ _ _ us hl => match us, hl with | [_, _], _ => rfl
  have D28 : Df K mg "_law_scripts" sScripts ["_law_state", "_law_most", "_law_many"] := df_mk X G a28 l28 c28 k28 fun _ _ _ _ _ _ us hl => match us, hl with | [_, _, _], _ => rfl
  have D29 : Df K mg "_law_refused" sRefused ["_law_word", "_law_opened", "_law_lock", "_law_top"] := df_mk X G a29 l29 c29 k29 fun _ _ _ _ _ _ us hl => match us, hl with | [_, _, _, _], _ => rfl
  have D30 : Df K mg "_law_behind" sBehind ["_law_word", "_law_opened", "_law_reads", "_law_lock"] := df_mk X G a30 l30 c30 k30 fun _ _ _ _ _ _ us hl => match us, hl with | [_, _, _, _], _ => rfl
  have D31 : Df K mg "_law_after" sAfter ["_law_scripts_here", "_law_here", "_law_at"] := df_mk X G a31 l31 c31 k31 fun _ _ _ _ _ _ us hl => match us, hl with | [_, _, _], _ => rfl
  have D32 : Df K mg "_law_begun" sBegun ["_law_scripts_here"] := df_mk X G a32 l32 c32 k32 fun _ _ _ _ _ _ us hl => match us, hl with | [_], _ => rfl
  have D33 : Df K mg "_law_left" sLeft ["_law_scripts_here", "_law_here"] := df_mk X G a33 l33 c33 k33 fun _ _ _ _ _ _ us hl => match us, hl with | [_, _], _ => rfl
  have D34 : Df K mg "_law_reached" sRch ["_law_scripts_here", "_law_tries"] := df_mk X G a34 l34 c34 k34 fun _ _ _ _ _ _ us hl => match us, hl with | [_, _], _ => rfl
  have D35 : Df K mg "_law_any_refused" sAny ["_law_scripts_here", "_law_here"] := df_mk X G a35 l35 c35 k35 fun _ _ _ _ _ _ us hl => match us, hl with | [_, _], _ => rfl
  have D36 : Df K mg "_law_is_stuck" sLs ["_law_scripts_here", "_law_here"] := df_mk X G a36 l36 c36 k36 fun _ _ _ _ _ _ us hl => match us, hl with | [_, _], _ => rfl
  have D37 : Df K mg "_law_handed" sHanded ["_law_state", "_law_thing"] := df_mk X G a37 l37 c37 k37 fun _ _ _ _ _ _ us hl => match us, hl with | [_, _], _ => rfl
  have D38 : Df K mg "_law_odd" sOdd ["_law_state"] := df_mk X G a38 l38 c38 k38 fun _ _ _ _ _ _ us hl => match us, hl with | [_], _ => rfl
  have D39 : Df K mg "_law_state_of" sSto ["_law_thing"] := df_mk X G a39 l39 c39 k39 fun _ _ _ _ _ _ us hl => match us, hl with | [_], _ => rfl
  have D40 : Df K mg "_law_readers" sRdr ["_law_scripts_here"] := df_mk X G a40 l40 c40 k40 fun _ _ _ _ _ _ us hl => match us, hl with | [_], _ => rfl
  have D41 : Df K mg "_law_walked" sWlk ["_law_scripts_here", "_law_order"] := df_mk X G a41 l41 c41 k41 fun _ _ _ _ _ _ us hl => match us, hl with | [_, _], _ => rfl
  have D42 : Df K mg "_law_are_all" sAre ["_law_found", "_law_states"] := df_mk X G a42 l42 c42 k42 fun _ _ _ _ _ _ us hl => match us, hl with | [_, _], _ => rfl
  have D43 : Df K mg "_law_drawn_order" sDro ["_law_state", "_law_scripts_here", "_law_refused_here"] := df_mk X G a43 l43 c43 k43 fun _ _ _ _ _ _ us hl => match us, hl with | [_, _, _], _ => rfl
  have D44 : Df K mg "_law_bent_order" sBo ["_law_state", "_law_order"] := df_mk X G a44 l44 c44 k44 fun _ _ _ _ _ _ us hl => match us, hl with | [_, _], _ => rfl
  have D45 : Df K mg "_law_bent_state" sBs ["_law_state", "_law_here"] := df_mk X G a45 l45 c45 k45 fun _ _ _ _ _ _ us hl => match us, hl with | [_, _], _ => rfl
  have D46 : Df K mg "_law_bent_states" sBst ["_law_state", "_law_states"] := df_mk X G a46 l46 c46 k46 fun _ _ _ _ _ _ us hl => match us, hl with | [_, _], _ => rfl
  refine ⟨PySem.W.fnOf "law" "law" (defArgs sLaw) (defBody sLaw) (defScope sLaw) .none kV47 dc47 pm47 an47 cd47 ct47, fun s v => .of_eq rfl, fun base _ _ => ?_⟩
  have Pil := pr_isList (P := l.prog) (w := w) (base := base) D0 T2
  have Pis := pr_isScript (P := l.prog) (w := w) (base := base) D1 T2 (PySem.W.mg_none_of X G z_str) Tk0 Pil
  have Pck := pr_checked D2 T2 Pil Pis
  have Pfi := pr_first D3 T2 Tk0 Pck
  have Pre := pr_rest (P := l.prog) (w := w) (base := base) D4 Tk0
  have Pop := pr_open (P := l.prog) (w := w) (base := base) D5 Tk0
  have Pwk := pr_work D6 Tk0 Pre
  have Ptr := pr_tried D7 Tk0 Pre Pop Pwk
  have Pmo := pr_moved D8 T Tk0 Ptr
  have Pwa := pr_wait (P := l.prog) (w := w) (base := base) D9 T
  have Pnu := pr_num (P := l.prog) (w := w) (base := base) D14 T2
  have P1 := pr_fresh (P := l.prog) (w := w) (base := base) D21
  have P2 := pr_fill (P := l.prog) (w := w) (base := base) D22 T
  have P3 := pr_take D23 T P2
  have P4 := pr_one D24 T P3
  have P5 := pr_same (P := l.prog) (w := w) (base := base) D26 T2 5
  have Psc := pr_script D27 T T2 (PySem.W.mg_none_of X G z_range) (PySem.W.mg_none_of X G z_min) P3 P4
  have Pss := pr_scripts D28 T2 (PySem.W.mg_none_of X G z_range) P3 Psc
  have Prf := pr_refused (P := l.prog) (w := w) (base := base) D29
  have Pbe := pr_behind (P := l.prog) (w := w) (base := base) D30 T (PySem.W.mg_none_of X G z_max)
  have Paf := pr_after D31 T (PySem.W.mg_none_of X G z_max) Prf Pbe
  have Pbg := pr_begun (P := l.prog) (w := w) (base := base) D32 T2
  have Ple := pr_left (P := l.prog) (w := w) (base := base) D33 T (PySem.W.mg_none_of X G z_range)
  have Pha := pr_handed D37 T2 P3 3
  have Phx := pr_handedX D37 T2 P3 5
  have Pwy := pr_way (P := l.prog) (w := w) (base := base) D10 T2
  have Prs := pr_rfs D11 T2 (PySem.W.mg_none_of X G z_sorted) Pck Pfi Pwa Pmo Pwy
  have Piss := pr_iss D12 T2 Pwa Pmo
  have Pst := pr_stk D13 T2 (PySem.W.mg_none_of X G z_sorted) Pck Pfi Pwa Pmo Pwy Piss
  have Prc := pr_rch D34 T2 Pbg Ple Paf
  have Pan := pr_any D35 (PySem.W.mg_none_of X G z_any) Ple Paf
  have Pls := pr_ls D36 T2 Ple Paf
  have Plx := pr_isLX (P := l.prog) (w := w) (base := base) D0 T2
  have PiO := pr_isO D15 T2 (PySem.W.mg_none_of X G z_enumerate) Plx Pck Pfi Pnu Pwa Pmo
  have PiS := pr_isS D16 T2 Plx Pck Pfi Pnu Pwa Pmo Piss
  have PiR := pr_isR D17 T2 Plx Pnu
  have Pal := pr_all D18 T2 Plx PiR
  have Pnv := pr_nev D19 Prs Pal
  have Pfr := pr_fre D20 Pst Pal
  have Prd := pr_rdr (P := l.prog) (w := w) (base := base) D40 T2
  have Pod := pr_oddX D38 T P3
  have Pso := pr_sto (P := l.prog) (w := w) (base := base) D39 T2
  have Pwl := pr_wlk D41 T2 Pbg Ple Paf
  have Par := pr_are D42 T2 (PySem.W.mg_none_of X G z_set) Pso
  have Pmx := pr_mix D25 T2 P3
  have Pdo := pr_dro D43 T2 (PySem.W.mg_none_of X G z_range) P3 Pbg Ple Paf
  have Pbo := pr_bo D44 T2 P3 Pod
  have Pbs := pr_bs D45 T2 P3 Pod P4 Pso
  have Pbt := pr_bst D46 T2 P3 Pod Pbs Pmx
  exact ok_law (fun_mk l47 c47 k47) T2 Tw0 P1 P3 Pss Prd Pha Phx Pdo Pbo Pwl Pls PiO PiS P5 Prc Pan Pbt Par Pnv Pfr
theorem walk {l : PySem.W.OpenLaw} {q : Program} {loose : List Str} {XP : (Str → Option Value) → Heap → Prop} {YP : World → Heap → Prop} {d : DefRec} {K : Params → PySem.W.Frag} (hn : l.most = some 63) (hdf : d.params.defaults = [])
    (hY : ∀ (w : World) (h : Heap), YP w h → (K w.params).In h)
    (F : ∀ (w : World) (mg : Str → Option Value) (fa : Addr) (h : Heap), (K w.params).In h → h.Ns mainGlobals mg → mg d.name = some (.ref fa) →
      ∃ fd : FuncData, (∀ (s : Shared) (u : Value), BindsTo s fd ⟨[u], []⟩ [("_law_script_here", u)]) ∧ ∀ base : Heap, (K w.params).In base → base.Ns mainGlobals mg → FnG l.prog w (K w.params) mg base 8 fa fd ["_law_script_here"] (spLaw (K w.params))) :
    PySem.W.WalkO q loose XP YP l.row.toRowW d [] (fun f vs => PySem.call f vs) :=
  walk_ofG (n := 63) (k := 8) (x := "_law_script_here") (sp := fun w => spLaw (K w.params)) hn (by decide) hdf ⟨rfl, by decide, by decide⟩ hY F (fun _ _ a ns hl _ hS => ⟨a, ns, rfl, hS, hl, fun _ => rfl⟩)
end C81
open PySem PySem.W PyProof.Rows
set_option maxRecDepth 100000 in
set_option maxHeartbeats 0 in
theorem PySem.Challenge.cw_cursorhouse_k81_orders_and_states_looked_holds : PySem.Challenge.rw_cursorhouse_k81_orders_and_states_looked.Holds := by
  w_on; o_law; k_head; (case hw => w_witness2)
  k_fill
  refine C81.walk (l := PySem.Challenge.rw_cursorhouse_k81_orders_and_states_looked) rfl rfl (fun w h Y => PySem.W.kIn_of Y) ?F
  case F =>
    intro w mg fa h KX G hmg
    refine' C81.all_mk KX G hmg ?a0 ?l0 ?c0 ?k0 ?a1 ?l1 ?c1 ?k1 ?a2 ?l2 ?c2 ?k2 ?a3 ?l3 ?c3 ?k3 ?a4 ?l4 ?c4 ?k4 ?a5 ?l5 ?c5 ?k5 ?a6 ?l6 ?c6 ?k6 ?a7 ?l7 ?c7 ?k7 ?a8 ?l8 ?c8 ?k8 ?a9 ?l9 ?c9 ?k9 ?a10 ?l10 ?c10 ?k10 ?a11 ?l11 ?c11 ?k11 ?a12 ?l12 ?c12 ?k12 ?a13 ?l13 ?c13 ?k13 ?a14 ?l14 ?c14 ?k14 ?a15 ?l15 ?c15 ?k15 ?a16 ?l16 ?c16 ?k16 ?a17 ?l17 ?c17 ?k17 ?a18 ?l18 ?c18 ?k18 ?a19 ?l19 ?c19 ?k19 ?a20 ?l20 ?c20 ?k20 ?a21 ?l21 ?c21 ?k21 ?a22 ?l22 ?c22 ?k22 ?a23 ?l23 ?c23 ?k23 ?a24 ?l24 ?c24 ?k24 ?a25 ?l25 ?c25 ?k25 ?a26 ?l26 ?c26 ?k26 ?a27 ?l27 ?c27 ?k27 ?a28 ?l28 ?c28 ?k28 ?a29 ?l29 ?c29 ?k29 ?a30 ?l30 ?c30 ?k30 ?a31 ?l31 ?c31 ?k31 ?a32 ?l32 ?c32 ?k32 ?a33 ?l33 ?c33 ?k33 ?a34 ?l34 ?c34 ?k34 ?a35 ?l35 ?c35 ?k35 ?a36 ?l36 ?c36 ?k36 ?a37 ?l37 ?c37 ?k37 ?a38 ?l38 ?c38 ?k38 ?a39 ?l39 ?c39 ?k39 ?a40 ?l40 ?c40 ?k40 ?a41 ?l41 ?c41 ?k41 ?a42 ?l42 ?c42 ?k42 ?a43 ?l43 ?c43 ?k43 ?a44 ?l44 ?c44 ?k44 ?a45 ?l45 ?c45 ?k45 ?a46 ?l46 ?c46 ?k46 ?a47 ?l47 ?c47 ?k47 ?z_len ?z_int ?z_enumerate ?z_bool ?z_list ?z_tuple ?z_isinstance ?z_all ?z_zip ?z_range ?z_max ?z_min ?z_str ?z_repr ?z_sorted ?z_any ?z_set ?tNO_LOCK ?tSHARED ?tRESERVED ?tPENDING ?tEXCLUSIVE ?tTOPENING ?lTOPENING ?tTENDING ?lTENDING ?tTOTHERS ?lTOTHERS
    (case a0 => k_is)
    (case l0 => k_is)
    (case c0 => k_is)
    (case k0 => k_is)
    (case a1 => k_is)
    (case l1 => k_is)
    (case c1 => k_is)
    (case k1 => k_is)
    (case a2 => k_is)
    (case l2 => k_is)
    (case c2 => k_is)
    (case k2 => k_is)
    (case a3 => k_is)
    (case l3 => k_is)
    (case c3 => k_is)
    (case k3 => k_is)
    (case a4 => k_is)
    (case l4 => k_is)
    (case c4 => k_is)
    (case k4 => k_is)
    (case a5 => k_is)
    (case l5 => k_is)
    (case c5 => k_is)
    (case k5 => k_is)
    (case a6 => k_is)
    (case l6 => k_is)
    (case c6 => k_is)
    (case k6 => k_is)
    (case a7 => k_is)
    (case l7 => k_is)
    (case c7 => k_is)
    (case k7 => k_is)
    (case a8 => k_is)
    (case l8 => k_is)
    (case c8 => k_is)
    (case k8 => k_is)
    (case a9 => k_is)
    (case l9 => k_is)
    (case c9 => k_is)
    (case k9 => k_is)
    (case a10 => k_is)
    (case l10 => k_is)
    (case c10 => k_is)
    (case k10 => k_is)
    (case a11 => k_is)
    (case l11 => k_is)
    (case c11 => k_is)
    (case k11 => k_is)
    (case a12 => k_is)
    (case l12 => k_is)
    (case c12 => k_is)
    (case k12 => k_is)
    (case a13 => k_is)
    (case l13 => k_is)
    (case c13 => k_is)
    (case k13 => k_is)
    (case a14 => k_is)
    (case l14 => k_is)
    (case c14 => k_is)
    (case k14 => k_is)
    (case a15 => k_is)
    (case l15 => k_is)
    (case c15 => k_is)
    (case k15 => k_is)
    (case a16 => k_is)
    (case l16 => k_is)
    (case c16 => k_is)
    (case k16 => k_is)
    (case a17 => k_is)
    (case l17 => k_is)
    (case c17 => k_is)
    (case k17 => k_is)
    (case a18 => k_is)
    (case l18 => k_is)
    (case c18 => k_is)
    (case k18 => k_is)
    (case a19 => k_is)
    (case l19 => k_is)
    (case c19 => k_is)
    (case k19 => k_is)
    (case a20 => k_is)
    (case l20 => k_is)
    (case c20 => k_is)
    (case k20 => k_is)
    (case a21 => k_is)
    (case l21 => k_is)
    (case c21 => k_is)
    (case k21 => k_is)
    (case a22 => k_is)
    (case l22 => k_is)
    (case c22 => k_is)
    (case k22 => k_is)
    (case a23 => k_is)
    (case l23 => k_is)
    (case c23 => k_is)
    (case k23 => k_is)
    (case a24 => k_is)
    (case l24 => k_is)
    (case c24 => k_is)
    (case k24 => k_is)
    (case a25 => k_is)
    (case l25 => k_is)
    (case c25 => k_is)
    (case k25 => k_is)
    (case a26 => k_is)
    (case l26 => k_is)
    (case c26 => k_is)
    (case k26 => k_is)
    (case a27 => k_is)
    (case l27 => k_is)
    (case c27 => k_is)
    (case k27 => k_is)
    (case a28 => k_is)
    (case l28 => k_is)
    (case c28 => k_is)
    (case k28 => k_is)
    (case a29 => k_is)
    (case l29 => k_is)
    (case c29 => k_is)
    (case k29 => k_is)
    (case a30 => k_is)
    (case l30 => k_is)
    (case c30 => k_is)
    (case k30 => k_is)
    (case a31 => k_is)
    (case l31 => k_is)
    (case c31 => k_is)
    (case k31 => k_is)
    (case a32 => k_is)
    (case l32 => k_is)
    (case c32 => k_is)
    (case k32 => k_is)
    (case a33 => k_is)
    (case l33 => k_is)
    (case c33 => k_is)
    (case k33 => k_is)
    (case a34 => k_is)
    (case l34 => k_is)
    (case c34 => k_is)
    (case k34 => k_is)
    (case a35 => k_is)
    (case l35 => k_is)
    (case c35 => k_is)
    (case k35 => k_is)
    (case a36 => k_is)
    (case l36 => k_is)
    (case c36 => k_is)
    (case k36 => k_is)
    (case a37 => k_is)
    (case l37 => k_is)
    (case c37 => k_is)
    (case k37 => k_is)
    (case a38 => k_is)
    (case l38 => k_is)
    (case c38 => k_is)
    (case k38 => k_is)
    (case a39 => k_is)
    (case l39 => k_is)
    (case c39 => k_is)
    (case k39 => k_is)
    (case a40 => k_is)
    (case l40 => k_is)
    (case c40 => k_is)
    (case k40 => k_is)
    (case a41 => k_is)
    (case l41 => k_is)
    (case c41 => k_is)
    (case k41 => k_is)
    (case a42 => k_is)
    (case l42 => k_is)
    (case c42 => k_is)
    (case k42 => k_is)
    (case a43 => k_is)
    (case l43 => k_is)
    (case c43 => k_is)
    (case k43 => k_is)
    (case a44 => k_is)
    (case l44 => k_is)
    (case c44 => k_is)
    (case k44 => k_is)
    (case a45 => k_is)
    (case l45 => k_is)
    (case c45 => k_is)
    (case k45 => k_is)
    (case a46 => k_is)
    (case l46 => k_is)
    (case c46 => k_is)
    (case k46 => k_is)
    (case a47 => k_is)
    (case l47 => k_is)
    (case c47 => k_is)
    (case k47 => k_is)
    (case z_len => k_is)
    (case z_int => k_is)
    (case z_enumerate => k_is)
    (case z_bool => k_is)
    (case z_list => k_is)
    (case z_tuple => k_is)
    (case z_isinstance => k_is)
    (case z_all => k_is)
    (case z_zip => k_is)
    (case z_range => k_is)
    (case z_max => k_is)
    (case z_min => k_is)
    (case z_str => k_is)
    (case z_repr => k_is)
    (case z_sorted => k_is)
    (case z_any => k_is)
    (case z_set => k_is)
    (case tNO_LOCK => k_is)
    (case tSHARED => k_is)
    (case tRESERVED => k_is)
    (case tPENDING => k_is)
    (case tEXCLUSIVE => k_is)
    (case tTOPENING => k_is)
    (case lTOPENING => k_is)
    (case tTENDING => k_is)
    (case lTENDING => k_is)
    (case tTOTHERS => k_is)
    (case lTOTHERS => k_is)
#print axioms PySem.Challenge.cw_cursorhouse_k81_orders_and_states_looked_holds
