import PyProof.Rows.All
import Wide.All
import OpenK.AllK
import Wide.FinOn
import HandS.ForMost
import HandS.Walk
import HandS.Evl
import HandS.IsInst
import HandS.StrMore
import HandS.Flow
import HandS.Style
import HandS.Replace
import KE.GoesMore
import HandS.Zip
import HandS.SortKw
import KE.DataMinMax
import HandS.TupAny
import HandS.Dict
import KE.KeyNested
import KE.KDictDisplayH
import HandS.Iter
import HandS.More
import KE.SortCalls
import HandS.Deep
import KE.DataFind
import HandS.DictComp
import PyProof.ReprRoads
import PySem.Challenge.RW_cursorhouse_k83_whole_calmed_scripts
set_option Elab.async false
set_option maxRecDepth 100000
set_option maxHeartbeats 4000000
/-! Own rules beside the layer: enumerate over a tuple. -/
namespace My
open PySem L2 PyProof.Rows
theorem meets_enumT (l : Addr) (items : Array Value) (n : Nat) (dct : Option Addr) (sl : Array (Option Value)) :
    Meets (Builtin.«enumerate.__new__» ⟨[.type "enumerate", .ref l], []⟩) (fun _ R s => s.heap.get? l = some { cls := .type "tuple", dict := dct, data := .seq items n, slots := sl } ∧
      R (.ok (.ret (.ref (s.heap.push { cls := .type "tuple_iterator", data := .fields #[.ref l, .int 0 0] }).objs.size)))
        { s with heap := (s.heap.push { cls := .type "tuple_iterator", data := .fields #[.ref l, .int 0 0] }).push { cls := .type "enumerate", data := .fields #[.none, .bool false, .ref s.heap.objs.size, rawInt 0, .none, .none] } }) :=
  .of_wp fun prog w A R s h => by
    obtain ⟨hp, g, d, tk, os⟩ := s
    obtain ⟨hl, h⟩ := h
    have hsub := sub_enumerate
    have hL : Heap.IsTuple (Shared.heap ⟨hp, g, d, tk, os⟩) l items := ⟨_, hl, rfl, n, rfl⟩
    wp_walk using AutoSeq1.wpAny_loadPart' hl
    refine wpAny_stack_any fun st => wpAny_pure ?_
    split
    · rename_i c _ _ _ _ _
      cases (c == Value.type "enumerate")
      · wp_walk using AutoSeq1.wpAny_loadPart' hl, wpAny_pyIter_tuple hL
        exact ⟨_, rfl, h⟩
      · wp_walk using AutoSeq1.wpAny_loadPart' hl, wpAny_pyIter_tuple hL
        exact ⟨_, rfl, h⟩
    · wp_walk using AutoSeq1.wpAny_loadPart' hl, wpAny_pyIter_tuple hL
      exact ⟨_, rfl, h⟩
section
variable {prog : Program} {w : World} {A : Around} {E : Value → Shared → Prop} {s : Shared}
theorem call_enumT {l : Addr} {items : Array Value} {Q : Value → Shared → Prop} (hL : s.heap.IsTuple l items)
    (h : ∀ h', IsEnum h' (s.heap.objs.size + 1) s.heap.objs.size 0 .none → h'.IsTupleIter s.heap.objs.size l 0 → h'.objs.size = s.heap.objs.size + 2 →
      (∀ b o, s.heap.get? b = some o → h'.get? b = some o) → Q (.ref (s.heap.objs.size + 1)) { s with heap := h' }) :
    wpAny (model prog w) A (call (.type "enumerate") [.ref l]) Q E s := by
  obtain ⟨⟨c, dct, dt, sl⟩, hl, hc, n, hd⟩ := hL
  replace hc : c = .type "tuple" := hc
  replace hd : dt = .seq items n := hd
  subst hc hd
  refine callType_new F.called_enumerate (by decide) (F.typeCall_enumerate_1 _) (F.newCall_enumerate_1 _) (fun obj => F.args_object_init_2 obj _) F.entry_enumerate_new
    (meets_enumT l items n dct sl) ⟨hl, ?_⟩
  have hz : (s.heap.push { cls := .type "tuple_iterator", data := .fields #[.ref l, .int 0 0] }).objs.size = s.heap.objs.size + 1 := Heap.size_push ..
  show _ ∧ _
  rw [hz]
  have he : IsEnum ((s.heap.push { cls := .type "tuple_iterator", data := .fields #[.ref l, .int 0 0] }).push
      { cls := .type "enumerate", data := .fields #[.none, .bool false, .ref s.heap.objs.size, rawInt 0, .none, .none] }) (s.heap.objs.size + 1) s.heap.objs.size 0 .none := by
    have := Heap.get?_push_size (s.heap.push { cls := .type "tuple_iterator", data := .fields #[.ref l, .int 0 0] })
      (o := { cls := .type "enumerate", data := .fields #[.none, .bool false, .ref s.heap.objs.size, rawInt 0, .none, .none] }) rfl
    rw [hz] at this
    exact this
  exact ⟨⟨_, he, rfl⟩, h _ he ⟨_, Heap.get?_push_of_some _ (Heap.get?_push_size _ rfl), rfl, rfl⟩ (by rw [Heap.size_push, hz]) fun b o x => Heap.get?_push_of_some _ (Heap.get?_push_of_some _ x)⟩
theorem enumT_end {e it l : Addr} {i : Nat} {items : Array Value} {old : Value} {Q : Option Value → Shared → Prop} (hh : A.handled = none)
    (he : IsEnum s.heap e it i old) (hit : s.heap.IsTupleIter it l i) (hl : s.heap.IsTuple l items) (hx : items[i]? = none)
    (hQ : ∀ h', Heap.ExtBut it s.heap h' → Q none { s with heap := h' }) : wpAny (model prog w) A (pyNext (.ref e)) Q E s := by
  have tE : s.TypeIs (.ref e) "enumerate" := ⟨_, he, rfl⟩
  unfold pyNext
  refine wpAny_bind (wpAny_attempt (wpAny_callSpecial?_slot (name := Str.ofString "__next__") tE F.slot_enumerate_next
    (wpAny_call_entry F.slot_enumerate_next tE F.entry_enumerate_next ?_ (F.args_enumerate_next_1 _))))
  show wpAny _ _ (field (.ref e) 2 >>= _) _ _ _
  refine wpAny_bind (wpAny_field he rfl (x := .ref it) rfl ?_)
  refine wpAny_bind (wpAny_nextOf_tuple_end hh hit hl hx fun h' x he' hx' => ?_)
  obtain ⟨o, ho, hc⟩ := hx'
  refine wpAny_bind (wpAny_isInstance (T := "StopIteration") (b := true) ⟨o, ho, hc⟩ isSubtype_stop ?_)
  exact wpAny_pure (hQ _ he')
end
/-- the tuple at a as it stands at each turn, each item in a new pair -/
def Iet (K : PySem.W.Frag) (a : Addr) : It :=
  ⟨fun i H => ∃ (xs : List V) (x : V), SqT K H a xs ∧ xs[i]? = some x, fun i H v H' => ∃ T x, v = .ref T ∧ H T = none ∧ H' = upd H T (.tup [.int (i : Nat), x]) ∧ ∀ xs, SqT K H a xs → xs[i]? = some x, fun i H => ∃ xs : List V, SqT K H a xs ∧ xs.length ≤ i⟩
theorem turn_enumT {P : Program} {w : World} {K : PySem.W.Frag} {elts : List Expr} {kk : Nat} {tpos : Pos} (a e it : Addr) :
    Turn P w K (.Tuple elts kk tpos) (Iet K a) [e, it] e (fun i h => (∃ old, IsEnum h e it ((i : Nat) : Int) old) ∧ h.IsTupleIter it a i ∧ e ≠ it) where
  mem := by simp
  obj := fun i h st b hb => by
    obtain ⟨⟨old, he⟩, ⟨o, ho, hc, hd⟩, _⟩ := st
    have e' : b = e ∨ b = it := by simpa using hb
    rcases e' with z | z
    · rw [z]
      exact ⟨_, he, fun v q => nomatch q⟩
    · rw [z]
      exact ⟨o, ho, fun v q => by rw [hd] at q; cases q⟩
  keep := fun i h h' st k => let ⟨⟨old, he⟩, hi, hne⟩ := st; ⟨⟨old, k e (by simp) _ he⟩, hi.at fun o q => k it (by simp) o q, hne⟩
  item := by
    intro X hP hw hK hc i pins s σ H E I hf st hg
    subst hP hw hK
    obtain ⟨⟨old, he⟩, hit, hne⟩ := st
    obtain ⟨xs, x, hq, hx⟩ := hg
    obtain ⟨its, rv, p, hz⟩ := I.tuple hq
    obtain ⟨u, hu, ru⟩ := rv.get hx
    have hel : e < s.heap.objs.size := Heap.lt_size he
    have hil : it < s.heap.objs.size := by
      obtain ⟨_, q, _⟩ := hit
      exact Heap.lt_size q
    have hlt : i < its.toArray.size := by
      have := (List.getElem?_eq_some_iff.mp hu).1
      simpa using this
    have hai : a ≠ it := by
      intro q
      obtain ⟨o, ho, hc', _⟩ := p
      obtain ⟨o2, ho2, hc2, _⟩ := hit
      rw [q, ho2] at ho
      cases ho
      rw [hc2] at hc'
      injection hc' with e1
      exact absurd e1 (by decide)
    have hae : a ≠ e := by
      intro q
      obtain ⟨o, ho, hc', _⟩ := p
      rw [q, he] at ho
      cases ho
      injection (show Value.type "enumerate" = Value.type "tuple" from hc') with e1
      exact absurd e1 (by decide)
    refine wpAny_pyNext_enum_itemD (Draws.tuple (A := X.A.in1) (show X.A.in1.handled = none from I.ok.hd hc) it a hai its.toArray) he ⟨hit, p⟩ hlt hne (by simp [hne, Ne.symm hae]) fun y h' tk hy ho hit' hT hsz hk => ?_
    have hyu : y = u := by
      have h1 : its.toArray[i]? = some u := by simpa using hu
      rw [h1] at hy
      exact (Option.some.inj hy).symm
    subst hyu
    refine ⟨_, rfl, wpAny_letOwnedTupleGo_enum (s := { s with heap := h', toks := tk + 1 }) ho fun h'' he' sb => ?_⟩
    have hT2 : h''.get? s.heap.objs.size = some { cls := .type "tuple", data := .seq #[.int i tk, y] } := (sb.2 _ (Nat.ne_of_gt hel)).trans hT
    have new : ObjOk X.prog X.w (upd H s.heap.objs.size (.tup [.int (i : Nat), x])) h'' s.heap.objs.size (.tup [.int (i : Nat), x]) :=
      ⟨by show 2 ≤ sizeLine; decide, [.int i tk, y], .cons ⟨_, rfl⟩ (.cons ru .nil), ⟨_, hT2, rfl, _, rfl⟩⟩
    have I1 : Inv X pins σ (upd H s.heap.objs.size (.tup [.int (i : Nat), x])) { s with heap := h'', toks := tk + 1 } :=
      I.turnedNew (ch := [e, it]) (fun b ob hb q => (sb.2 b (fun z => hb (by simp [z]))).trans (hk b ob (fun z => hb (by simp [z])) (fun z => hb (by simp [z])) q)) hf (Nat.le_refl _) new
    refine ⟨.ref s.heap.objs.size, _, I1, rfl, ⟨_, x, rfl, I.hok.fresh (Nat.le_refl _), rfl, fun ys hy => by rw [I.tuple_inj hy hq]; exact hx⟩, ⟨⟨y, ?_⟩, hit'.1.at fun o q => (sb.2 it (Ne.symm hne)).trans q, hne⟩, fun b hb => ?_⟩
    · have e1 : ((i + 1 : Nat) : Int) = (i : Int) + 1 := by omega
      rw [e1]
      exact he'
    · have hb' : b < s.heap.objs.size := by
        have e' : b = e ∨ b = it := by simpa using hb
        rcases e' with z | z
        · rw [z]
          exact hel
        · rw [z]
          exact hil
      rw [upd_ne (Nat.ne_of_lt hb')]
      exact (hf b hb).1
  done := by
    intro X hP hw hK hc i pins s σ H E I hf st hg
    subst hP hw hK
    obtain ⟨⟨old, he⟩, hit, hne⟩ := st
    obtain ⟨xs, hq, hx⟩ := hg
    obtain ⟨its, rv, p, hz⟩ := I.tuple hq
    obtain ⟨f0, f1, f2, f3, f4, f5⟩ := hf it (by simp)
    have hl := rv.length
    exact enumT_end (I.ok.hd hc) he hit p (by simp; omega) fun h' eb => ⟨rfl, I.turned (t' := s.toks) (fun b o hb q => eb b o hb q) f0 f1 f3 f4 f5⟩
  self := fun A i s Q E st h => let ⟨⟨_, he⟩, _⟩ := st; wpAny_pyIter_enum he h
def iEnumT (K : PySem.W.Frag) (ta : TA) : TI := fun σ H R => ta σ H fun vs H1 => ∃ a xs, vs = [.ref a] ∧ SqT K H1 a xs ∧ R (Iet K a) H1
theorem pi_enumT {X : Cx} {e : Expr} {ta : TA} {p pos tpos : Pos} {elts : List Expr} {kk : Nat} (hg : Gl X "enumerate") (hm : X.mg "enumerate" = none) (ha : PA X [e] ta) (hs : starEach [e] X.env = [(false, eval e X.env)] := by rfl) :
    PI X (.Tuple elts kk tpos) (.Call (.Name "enumerate" p) [e] [] pos) (iEnumT X.K ta) := by
  refine ⟨fun pins s σ H R I h => ?_⟩
  refine Call_ (ld_blt I hg hm boot_enumerate (PyProof.Rows.callWith_type1 (thn (ha.run pos pins s σ H _ I h) fun us s1 ⟨vs, H1, I1, r1, q1⟩ => ?_) hs rfl))
  obtain ⟨a, xs, ex, hq, q⟩ := q1
  subst ex
  cases r1 with
  | cons r rr =>
    cases rr
    cases r
    obtain ⟨its, rv, p', hz⟩ := I1.tuple hq
    refine call_enumT (show s1.heap.IsTuple a its.toArray from p') fun h' he hit hsz hk => wpAny_pyIter_enum he ?_
    have I2 : Inv X pins σ H1 { s1 with heap := h' } := I1.kept (t' := s1.toks) hk
    refine ⟨s1.heap.objs.size + 1, [s1.heap.objs.size + 1, s1.heap.objs.size], _, _, H1, rfl, I2, turn_enumT a (s1.heap.objs.size + 1) s1.heap.objs.size, ⟨⟨.none, he⟩, hit, Nat.succ_ne_self _⟩, fun b hb => ?_, q⟩
    have e' : b = s1.heap.objs.size + 1 ∨ b = s1.heap.objs.size := by simpa using hb
    have hle : s1.heap.objs.size ≤ b := by
      rcases e' with z | z
      · rw [z]
        exact Nat.le_add_right _ _
      · rw [z]
        exact Nat.le_refl _
    exact I1.fpOk hle (I1.hok.fresh hle)
theorem walk_enumT {K : PySem.W.Frag} {a : Addr} {xs : List V} : Walk (Iet K a) xs.length (fun H => SqT K H a xs) (YPair (fun i => some (.int (i : Nat))) (fun i => xs[i]?)) :=
  ⟨fun i H hi h => ⟨xs, xs[i], h, by simp [hi]⟩, fun H h => ⟨xs, h, Nat.le_refl _⟩, fun i H v H' hi h y => by
    obtain ⟨T, x, e, f, g, q⟩ := y
    exact ⟨T, .int (i : Nat), x, e, f, g, rfl, q xs h⟩⟩
end My

set_option Elab.async false
set_option maxRecDepth 100000
set_option maxHeartbeats 4000000
set_option linter.all false
/-! A def of the text and what it promises, by its name alone. -/
namespace My
open PySem PySem.Spec PyProof.Rows L2
/-- the def x of the text stands at its name, with parameters ps and no defaults -/
def Df (K : PySem.W.Frag) (mg : Str → Option Value) (x : Str) (st : Stmt) (ps : List Str) : Prop :=
  ∃ f fd, Fun K x x st f fd ∧ Binds K fd ps [] ∧ mg x = some (.ref f)
/-- the def that stands at the name x keeps the promise sp at level k -/
def Pr (P : Program) (w : World) (K : PySem.W.Frag) (mg : Str → Option Value) (base : Heap) (k : Nat) (x : Str) (ps : List Str) (sp : Sp) : Prop :=
  ∃ f fd, FnOk P w K mg base CX0 k f fd ps sp ∧ mg x = some (.ref f) ∧ PySem.W.keepIn K (.ref f) = true ∧ Binds K fd ps []
theorem pe_callP {X : Cx} {k : Nat} {x : Str} {ps : List Str} {sp : Sp} {e : Expr} {es : List Expr} {t : TA} {p pos : Pos}
    (h : Pr X.prog X.w X.K X.mg X.base k x ps sp) (hr : Room k X.A) (hg : Gl X x) (ha : PA X (e :: es) t)
    (hdb : (x == ("__debug__" : Str)) = false := by decide) (he : starEach (e :: es) X.env = (false, eval e X.env) :: starEach es X.env := by rfl) (hpl : (backTo pos (starEach es X.env)).any (·.1) = false := by rfl) :
    PE X (.Call (.Name x p) (e :: es) [] pos) (tCall sp [] E0 t) := by
  obtain ⟨f, fd, F, hm, hk, hb⟩ := h
  exact pe_call F hr hg hm hk hb .nil pass0 ha hdb he hpl
theorem Df.pr {P : Program} {w : World} {K : PySem.W.Frag} {mg : Str → Option Value} {base : Heap} {x : Str} {st : Stmt} {N ps : List Str} {k : Nat} {sp : Sp}
    (D : Df K mg x st ps) (S : FnScope N ps (defScope st)) (len : ∀ vs H Q E, sp vs H Q E → vs.length = ps.length)
    (hbody : ∀ (f : Addr) (cdv : Value) (A : Around) (outer : List Env) (s : Shared) (H : Hp) (vs : List V) (Q : VK) (E : XK), Room k (A.deeper (envOfC x (defScope st) s.heap.objs.size f cdv)) → sp vs H Q E →
      ∃ t, PSs (cxOf CX0 P w K mg base N x (defScope st) f cdv A outer s H E).nox (defBody st) t ∧ t { nx := fun _ H' => Q .non H', rt := Q } (start N vs) H) :
    Pr P w K mg base (k + 1) x ps sp := by
  obtain ⟨f, fd, F, b, g⟩ := D
  exact ⟨f, fd, F.ok S len (hbody f), g, F.kp, b⟩
/-- all but the object at p stays -/
def But (p : Addr) (H H' : Hp) : Prop := ∀ b o, H b = some o → b ≠ p → H' b = some o
theorem But.refl (p : Addr) (H : Hp) : But p H H := fun _ _ e _ => e
theorem But.trans {p : Addr} {H H1 H2 : Hp} (a : But p H H1) (b : But p H1 H2) : But p H H2 := fun x o e n => b x o (a x o e n) n
theorem But.upd {p : Addr} {H H1 : Hp} {o : HO} (a : But p H H1) : But p H (upd H1 p o) := fun x u e n => by
  rw [upd_ne n]
  exact a x u e n
theorem But.new {p q : Addr} {H H1 : Hp} {o : HO} (a : But p H H1) (h : H1 q = none) : But p H (L2.upd H1 q o) := fun x u e n => by
  rw [upd_ne (ne_of_none (a x u e n) h)]
  exact a x u e n
/-- the law's own drawing state at st: cells at c (the script's numbers), the rest open -/
def Drw (H : Hp) (st c : Addr) (ns : List Int) : Prop :=
  H c = some (.lst (ns.map V.int)) ∧ ∃ (n v : Int) (b : Bool), 0 ≤ n ∧ H st = some (.lst [.ref c, .int n, .int v, .bl b])
theorem Drw.ne {H : Hp} {st c : Addr} {ns : List Int} (h : Drw H st c ns) : c ≠ st := by
  obtain ⟨hc, n, v, b, _, hs⟩ := h
  refine ne_of hc hs fun e => ?_
  injection e with e
  cases ns with
  | nil => cases e
  | cons a r =>
    injection e with e1 _
    cases e1
theorem Drw.put {H : Hp} {st c : Addr} {ns : List Int} (h : Drw H st c ns) {n v : Int} {b : Bool} (h0 : 0 ≤ n) : Drw (L2.upd H st (.lst [.ref c, .int n, .int v, .bl b])) st c ns :=
  ⟨by rw [upd_ne h.ne]; exact h.1, n, v, b, h0, upd_same⟩
theorem Drw.new {H : Hp} {st c q : Addr} {ns : List Int} {o : HO} (h : Drw H st c ns) (hq : H q = none) : Drw (L2.upd H q o) st c ns := by
  obtain ⟨hc, n, v, b, h0, hs⟩ := h
  exact ⟨by rw [upd_ne (ne_of_none hc hq)]; exact hc, n, v, b, h0, by rw [upd_ne (ne_of_none hs hq)]; exact hs⟩
theorem Drw.but {H H' : Hp} {st c : Addr} {ns : List Int} (h : Drw H st c ns) {n v : Int} {b : Bool} (h0 : 0 ≤ n) (hb : But st H H') (hs : H' st = some (.lst [.ref c, .int n, .int v, .bl b])) : Drw H' st c ns :=
  ⟨hb _ _ h.1 h.ne, n, v, b, h0, hs⟩
/-- a test whose both answers leave the heap as it is -/
theorem tt_any {c : TT} {σ : L2.St} {H : Hp} {K : Bool → Hp → Prop} (h : ∀ K' : Bool → Hp → Prop, K' true H → K' false H → c σ H K') (hT : K true H) (hF : K false H) : c σ H K := h K hT hF
theorem ite3 {c : Prop} [Decidable c] {K : Bool → Hp → Prop} {H : Hp} (a : c → K true H) (b : ¬ c → K false H) : K (decide c) H := by
  by_cases h : c
  · rw [decide_eq_true h]
    exact a h
  · rw [decide_eq_false h]
    exact b h
end My

set_option Elab.async false
set_option maxRecDepth 100000
set_option maxHeartbeats 4000000
set_option linter.all false
/-! Data that stands in the heap, apart from one object m that may change. -/
namespace My
open PySem PySem.Spec PyProof.Rows L2
mutual
inductive At (m : Addr) (H : Hp) : V → PyData → Prop
  | non : At m H .non .none
  | bl (b : Bool) : At m H (.bl b) (.bool b)
  | int (i : Int) : At m H (.int i) (.int i)
  | str (x : Str) : At m H (.str x) (.str x)
  | lst {a : Addr} {xs : List V} {ds : List PyData} : a ≠ m → H a = some (.lst xs) → AtAll m H xs ds → At m H (.ref a) (.list ds)
  | tup {a : Addr} {xs : List V} {ds : List PyData} : a ≠ m → H a = some (.tup xs) → AtAll m H xs ds → At m H (.ref a) (.tuple ds)
inductive AtAll (m : Addr) (H : Hp) : List V → List PyData → Prop
  | nil : AtAll m H [] []
  | cons {v : V} {vs : List V} {d : PyData} {ds : List PyData} : At m H v d → AtAll m H vs ds → AtAll m H (v :: vs) (d :: ds)
end
mutual
theorem At.mono {m : Addr} {H H' : Hp} (b : But m H H') : ∀ {v : V} {d : PyData}, At m H v d → At m H' v d
  | _, _, .non => .non
  | _, _, .bl k => .bl k
  | _, _, .int i => .int i
  | _, _, .str x => .str x
  | _, _, .lst n h q => .lst n (b _ _ h n) (AtAll.mono b q)
  | _, _, .tup n h q => .tup n (b _ _ h n) (AtAll.mono b q)
theorem AtAll.mono {m : Addr} {H H' : Hp} (b : But m H H') : ∀ {vs : List V} {ds : List PyData}, AtAll m H vs ds → AtAll m H' vs ds
  | _, _, .nil => .nil
  | _, _, .cons h q => .cons (At.mono b h) (AtAll.mono b q)
end
mutual
theorem At.dp {K : PySem.W.Frag} {m : Addr} {H : Hp} : ∀ {v : V} {d : PyData}, At m H v d → Dp K H v d
  | _, _, .non => .non
  | _, _, .bl k => .bl k
  | _, _, .int i => .int i
  | _, _, .str x => .str x
  | _, _, .lst n h q => .lst (SqL.of h) (AtAll.dp q)
  | _, _, .tup n h q => .tup (SqT.of h) (AtAll.dp q)
theorem AtAll.dp {K : PySem.W.Frag} {m : Addr} {H : Hp} : ∀ {vs : List V} {ds : List PyData}, AtAll m H vs ds → DpAll K H vs ds
  | _, _, .nil => .nil
  | _, _, .cons h q => .cons (At.dp h) (AtAll.dp q)
end
theorem Same.but {m : Addr} {H H' : Hp} (s : Same H H') : But m H H' := fun b o e _ => s b o e
theorem AtAll.length {m : Addr} {H : Hp} : ∀ {vs : List V} {ds : List PyData}, AtAll m H vs ds → vs.length = ds.length
  | _, _, .nil => rfl
  | _, _, .cons _ q => by rw [List.length_cons, List.length_cons, AtAll.length q]
theorem AtAll.get {m : Addr} {H : Hp} : ∀ {vs : List V} {ds : List PyData} {i : Nat} {v : V}, AtAll m H vs ds → vs[i]? = some v → ∃ d, ds[i]? = some d ∧ At m H v d
  | _, _, _, _, .nil, e => by simp at e
  | _, _, 0, _, .cons h _, e => by
    simp at e
    subst e
    exact ⟨_, rfl, h⟩
  | _, _, i + 1, v, .cons _ q, e => by
    obtain ⟨d, h1, h2⟩ := AtAll.get (i := i) (v := v) q (by simpa using e)
    exact ⟨d, by simpa using h1, h2⟩
theorem AtAll.append {m : Addr} {H : Hp} {v : V} {d : PyData} : ∀ {vs : List V} {ds : List PyData}, AtAll m H vs ds → At m H v d → AtAll m H (vs ++ [v]) (ds ++ [d])
  | _, _, .nil, h => .cons h .nil
  | _, _, .cons h q, e => .cons h (AtAll.append q e)
theorem AtAll.bools {m : Addr} {H : Hp} : ∀ (bs : List Bool), AtAll m H (bs.map V.bl) (bs.map PyData.bool)
  | [] => .nil
  | b :: r => .cons (.bl b) (AtAll.bools r)
theorem AtAll.mem {m : Addr} {H : Hp} {vs : List V} {ds : List PyData} {v : V} (h : AtAll m H vs ds) (hv : v ∈ vs) : ∃ d, d ∈ ds ∧ At m H v d := by
  obtain ⟨i, hi, e⟩ := List.getElem_of_mem hv
  obtain ⟨d, h1, h2⟩ := h.get (i := i) (v := v) (by rw [List.getElem?_eq_getElem hi, e])
  exact ⟨d, List.mem_of_getElem? h1, h2⟩
/-- what type(x) is called -/
def tyS : PyData → String
  | .none => "NoneType" | .bool _ => "bool" | .int _ => "int" | .str _ => "str" | .list _ => "list" | .tuple _ => "tuple" | .dict _ => "dict"
theorem At.ty {K : PySem.W.Frag} {m : Addr} {H : Hp} {v : V} {d : PyData} (h : At m H v d) : TyX K H v (.type (tyS d)) := by
  cases h with
  | non => exact .base .non
  | bl b => exact .base (.bl b)
  | int i => exact .base (.int i)
  | str x => exact .base (.str x)
  | lst n e q => exact .base (.lst e)
  | tup n e q => exact .base (.tup e)
/-- nested at most n deep -/
inductive Lev : Nat → PyData → Prop
  | non (n : Nat) : Lev n .none
  | bl (n : Nat) (b : Bool) : Lev n (.bool b)
  | int (n : Nat) (i : Int) : Lev n (.int i)
  | str (n : Nat) (x : Str) : Lev n (.str x)
  | lst {n : Nat} {ds : List PyData} : ds.length ≤ 5000000 → (∀ x, x ∈ ds → Lev n x) → Lev (n + 1) (.list ds)
  | tup {n : Nat} {ds : List PyData} : ds.length ≤ 5000000 → (∀ x, x ∈ ds → Lev n x) → Lev (n + 1) (.tuple ds)
theorem walk_zipT {K : PySem.W.Frag} {a b : Addr} {xs ys : List V} (hn : xs.length = ys.length) : Walk (RZ.ItzT K a b) xs.length (fun H => SqT K H a xs ∧ SqT K H b ys) (YPair (fun i => xs[i]?) (fun i => ys[i]?)) :=
  ⟨fun i H hi h => ⟨xs, ys, xs[i], ys[i]'(by omega), h.1, h.2, by simp [hi], by simp [show i < ys.length by omega]⟩, fun H h => ⟨xs, ys, h.1, h.2, .inl (Nat.le_refl _)⟩, fun i H v H' hi h y => by
    obtain ⟨T, x, y, e, f, g, q, r⟩ := y
    exact ⟨T, x, y, e, f, g, q xs h.1, r ys h.2⟩⟩
theorem walk_zipL {K : PySem.W.Frag} {a b : Addr} {xs ys : List V} (hn : xs.length = ys.length) : Walk (Itz K a b) xs.length (fun H => SqL K H a xs ∧ SqL K H b ys) (YPair (fun i => xs[i]?) (fun i => ys[i]?)) :=
  ⟨fun i H hi h => ⟨xs, ys, xs[i], ys[i]'(by omega), h.1, h.2, by simp [hi], by simp [show i < ys.length by omega]⟩, fun H h => ⟨xs, ys, h.1, h.2, .inl (Nat.le_refl _)⟩, fun i H v H' hi h y => by
    obtain ⟨T, x, y, e, f, g, q, r⟩ := y
    exact ⟨T, x, y, e, f, g, q xs h.1, r ys h.2⟩⟩
/-- what _law_same promises: two things that are the same data are told so -/
def spSame (n : Nat) : Sp := fun vs H Q _ => ∃ (m : Addr) (x y : V) (d : PyData) (o : HO), vs = [x, y] ∧ H m = some o ∧ At m H x d ∧ At m H y d ∧ Lev n d ∧ ∀ H', Same H H' → Q (.bl true) H'
theorem But.sqL {K : PySem.W.Frag} {p a : Addr} {H H' : Hp} {xs : List V} (b : But p H H') (n : a ≠ p) (h : SqL K H a xs) : SqL K H' a xs := by
  rcases h with h | h
  · rcases h with h | ⟨o, h⟩
    · exact .inl (.inl (b _ _ h n))
    · exact .inl (.inr ⟨o, b _ _ h n⟩)
  · exact .inr h
theorem But.sqT {K : PySem.W.Frag} {p a : Addr} {H H' : Hp} {xs : List V} (b : But p H H') (n : a ≠ p) (h : SqT K H a xs) : SqT K H' a xs := by
  rcases h with h | h
  · rcases h with h | ⟨o, h⟩
    · exact .inl (.inl (b _ _ h n))
    · exact .inl (.inr ⟨o, b _ _ h n⟩)
  · exact .inr h
def kitAnyB (a : String) : List String → Option Bool
  | [] => some false
  | c :: cs => match kitB a c with
    | some true => some true
    | some false => kitAnyB a cs
    | none => none
theorem kit_any {K : PySem.W.Frag} {a : String} : ∀ {cs : List String} {b : Bool}, kitAnyB a cs = some b → PySem.W.kitAny K (.type a) (cs.map Value.type) = some b
  | [], b, h => by
    cases h
    exact kitAny_nil
  | c :: cs, b, h => by
    unfold kitAnyB at h
    cases e : kitB a c with
    | none =>
      rw [e] at h
      cases h
    | some r =>
      rw [e] at h
      cases r with
      | true =>
        cases h
        exact kitAny_cons (kit_ty e) (fun z => by cases z) (fun _ => rfl)
      | false => exact kitAny_cons (kit_ty e) (fun _ => kit_any h) (fun z => by cases z)
theorem cls_all : ∀ (cs : List String), Paired ClsV (cs.map V.ty) (cs.map Value.type)
  | [] => .nil
  | c :: cs => .cons (.ty c) (cls_all cs)
theorem k_NoneType_list : kitB "NoneType" "list" = some false := by decide +kernel
theorem k_NoneType_tuple : kitB "NoneType" "tuple" = some false := by decide +kernel
theorem k_NoneType_int : kitB "NoneType" "int" = some false := by decide +kernel
theorem k_NoneType_bool : kitB "NoneType" "bool" = some false := by decide +kernel
theorem k_NoneType_str : kitB "NoneType" "str" = some false := by decide +kernel
theorem k_NoneType_lt : kitAnyB "NoneType" ["list", "tuple"] = some false := by decide +kernel
theorem k_NoneType_bilt : kitAnyB "NoneType" ["bool", "int", "list", "tuple"] = some false := by decide +kernel
theorem k_bool_list : kitB "bool" "list" = some false := by decide +kernel
theorem k_bool_tuple : kitB "bool" "tuple" = some false := by decide +kernel
theorem k_bool_int : kitB "bool" "int" = some true := by decide +kernel
theorem k_bool_bool : kitB "bool" "bool" = some true := by decide +kernel
theorem k_bool_str : kitB "bool" "str" = some false := by decide +kernel
theorem k_bool_lt : kitAnyB "bool" ["list", "tuple"] = some false := by decide +kernel
theorem k_bool_bilt : kitAnyB "bool" ["bool", "int", "list", "tuple"] = some true := by decide +kernel
theorem k_int_list : kitB "int" "list" = some false := by decide +kernel
theorem k_int_tuple : kitB "int" "tuple" = some false := by decide +kernel
theorem k_int_int : kitB "int" "int" = some true := by decide +kernel
theorem k_int_bool : kitB "int" "bool" = some false := by decide +kernel
theorem k_int_str : kitB "int" "str" = some false := by decide +kernel
theorem k_int_lt : kitAnyB "int" ["list", "tuple"] = some false := by decide +kernel
theorem k_int_bilt : kitAnyB "int" ["bool", "int", "list", "tuple"] = some true := by decide +kernel
theorem k_str_list : kitB "str" "list" = some false := by decide +kernel
theorem k_str_tuple : kitB "str" "tuple" = some false := by decide +kernel
theorem k_str_int : kitB "str" "int" = some false := by decide +kernel
theorem k_str_bool : kitB "str" "bool" = some false := by decide +kernel
theorem k_str_str : kitB "str" "str" = some true := by decide +kernel
theorem k_str_lt : kitAnyB "str" ["list", "tuple"] = some false := by decide +kernel
theorem k_str_bilt : kitAnyB "str" ["bool", "int", "list", "tuple"] = some false := by decide +kernel
theorem k_list_list : kitB "list" "list" = some true := by decide +kernel
theorem k_list_tuple : kitB "list" "tuple" = some false := by decide +kernel
theorem k_list_int : kitB "list" "int" = some false := by decide +kernel
theorem k_list_bool : kitB "list" "bool" = some false := by decide +kernel
theorem k_list_str : kitB "list" "str" = some false := by decide +kernel
theorem k_list_lt : kitAnyB "list" ["list", "tuple"] = some true := by decide +kernel
theorem k_list_bilt : kitAnyB "list" ["bool", "int", "list", "tuple"] = some true := by decide +kernel
theorem k_tuple_list : kitB "tuple" "list" = some false := by decide +kernel
theorem k_tuple_tuple : kitB "tuple" "tuple" = some true := by decide +kernel
theorem k_tuple_int : kitB "tuple" "int" = some false := by decide +kernel
theorem k_tuple_bool : kitB "tuple" "bool" = some false := by decide +kernel
theorem k_tuple_str : kitB "tuple" "str" = some false := by decide +kernel
theorem k_tuple_lt : kitAnyB "tuple" ["list", "tuple"] = some true := by decide +kernel
theorem k_tuple_bilt : kitAnyB "tuple" ["bool", "int", "list", "tuple"] = some true := by decide +kernel
/-- isinstance(x, C) of data, as the reading asks it -/
theorem isi_of {K : PySem.W.Frag} {m : Addr} {H : Hp} {v : V} {d : PyData} {c : String} {b : Bool} {Q : VK} (h : At m H v d) (k : kitB (tyS d) c = some b) (q : Q (.bl b) H) : rIsi K [v, .ty c] H Q :=
  ⟨_, _, _, _, b, rfl, .ty c, h.ty, kit_ty k, q⟩
theorem isiT_of {K : PySem.W.Frag} {m tp : Addr} {H : Hp} {v : V} {d : PyData} {cs : List String} {b : Bool} {Q : VK} (h : At m H v d) (ht : H tp = some (.tup (cs.map V.ty))) (k : kitAnyB (tyS d) cs = some b) (q : Q (.bl b) H) : rIsiT K [v, .ref tp] H Q :=
  ⟨_, _, _, _, _, b, rfl, ht, cls_all cs, h.ty, kit_any k, q⟩
theorem small6 {n : Nat} (h : n < 8000000) : n < sizeLine := Nat.lt_trans h (by decide)
/-- an if whose test leaves the heap as it is, both ways to be shown -/
theorem if_any {c : TT} {t u : TS} {D : Ends} {σ : L2.St} {H : Hp} (h : ∀ K' : Bool → Hp → Prop, K' true H → K' false H → c σ H K') (hT : t D σ H) (hF : u D σ H) : tIfS c t u D σ H := h _ (iteT hT) (iteF hF)
theorem seq_if_any {c : TT} {t u r : TS} {D : Ends} {σ : L2.St} {H : Hp} (h : ∀ K' : Bool → Hp → Prop, K' true H → K' false H → c σ H K') (hT : t { D with nx := r D } σ H) (hF : u { D with nx := r D } σ H) : tSeq (tIfS c t u) r D σ H := h _ (iteT hT) (iteF hF)
theorem by_bool {K' : Bool → Hp → Prop} {H : Hp} (a : K' true H) (b : K' false H) : ∀ c, K' c H
  | true => a
  | false => b
end My

set_option Elab.async false
set_option maxRecDepth 100000
set_option maxHeartbeats 4000000
set_option linter.all false
namespace C83
open PySem L2 My
def top (i : Nat) : Stmt := PySem.Challenge.pw_cursorhouse_k83_whole_calmed_scripts.main.body.getD i (.Pass ⟨0, 0, 0, 0⟩)
abbrev sFresh : Stmt := top 30
abbrev sFill : Stmt := top 31
abbrev sTake : Stmt := top 32
abbrev sOne : Stmt := top 33
structure Tx (mg : Str → Option Value) : Prop where
  len : mg "len" = none
  int : mg "int" = none
  enumerate : mg "enumerate" = none
def spFill : Sp := fun vs H Q _ => ∃ (st c : Addr) (ns : List Int), vs = [.ref st] ∧ Drw H st c ns ∧ ns.length ≤ 63 ∧
  ∀ H', Drw H' st c ns → But st H H' → Q .non H'
section
variable {P : Program} {w : World} {K : PySem.W.Frag} {mg : Str → Option Value} {base : Heap}
theorem scFill : FnScope ["_law_state", "_law_cells", "_law_nth", "_law_seed", "_law_k", "_law_prime", "_law_far"] ["_law_state"] (defScope sFill) := ⟨rfl, rfl, rfl, by decide +kernel, rfl, by decide +kernel, by decide +kernel⟩
theorem pr_fill (D : Df K mg "_law_fill" sFill ["_law_state"]) (T : Tx mg) : Pr P w K mg base 1 "_law_fill" ["_law_state"] spFill := by
  refine D.pr scFill (fun vs H Q E h => ?_) (fun f cdv A outer s H vs Q E hr h => ?_)
  · obtain ⟨p, c, ns, rfl, _⟩ := h
    rfl
  · obtain ⟨st, c, ns, rfl, dr, hn, k⟩ := h
    have nd := scFill.nd
    have hne := dr.ne
    obtain ⟨hc, n, v, b, n0, hs⟩ := id dr
    refine ⟨_, (pss_cons (ps_par (by rfl) nd (i := 1) (j := 2) rfl rfl (by decide) rfl rfl (pa_cons (pe_ix ix_list (pv 0) pe_int (fun _ _ => rfl)) (pa_cons (pe_ix ix_list (pv 0) pe_int (fun _ _ => rfl)) pa_nil)) (by rfl))
      (pss_cons (ps_asg (pe_op op_add (pe_op op_mul pe_int (pv 2)) pe_int) (pg_name (i := 3) nd rfl (Or.inl rfl)))
      (Evl.pss_cut (ps_if (pt_cmpR op_gt (pe_callB call_len (by rfl) T.len PySem.boot_len (pa_cons (pv 1) pa_nil)) pe_int (nomark _))
        (pss_one (ps_asg (pe_op op_add (pe_op op_mul pe_int (pe_op op_fdivN (pv 2) (pe_callB call_len (by rfl) T.len PySem.boot_len (pa_cons (pv 1) pa_nil)))) (pe_ix ix_list (pv 1) (pe_op op_modN (pe_callTy call_int1 (by rfl) T.int (by decide +kernel) (pa_cons (pv 2) pa_nil)) (pe_callB call_len (by rfl) T.len PySem.boot_len (pa_cons (pv 1) pa_nil))) (fun _ _ => rfl))) (pg_name (i := 3) nd rfl (Or.inl rfl))))
        pss_nil)
      (pss_cons (ps_asg (pe_op op_add (pv 2) pe_int) (pg_sub (pv 0) pe_int set_list))
      (Evl.pss_cut (ps_asg (pe_or (pe_cmpR op_ge (pv 2) (pe_callB call_len (by rfl) T.len PySem.boot_len (pa_cons (pv 1) pa_nil)) (nomark _)) (pe_one (pe_cmpR op_lt (pv 3) (pe_op op_pow pe_int pe_int) (nomark _)))) (pg_sub (pv 0) pe_int set_list))
      (pss_cons (ps_asg (pe_op op_sub (pv 3) (pe_op op_pow pe_int pe_int)) (pg_sub (pv 0) pe_int set_list))
      (pss_one (ps_if (pt_val (pe_ix ix_list (pv 0) pe_int (fun _ _ => rfl)))
        (pss_cons (ps_asg pe_int (pg_sub (pv 0) pe_int set_list))
        (pss_one (ps_for PassesOwn.never rfl (pi_enumT (by rfl) T.enumerate (pa_cons (pe_tup (pa_cons pe_int (pa_cons pe_int (pa_cons pe_int (pa_cons pe_int (pa_cons pe_int pa_nil)))))) pa_nil)) (pg_tup rfl (pgs_cons (pg_name (i := 4) nd rfl (Or.inl rfl)) (pgs_cons (pg_name (i := 5) nd rfl (Or.inl rfl)) pgs_nil)))
          (pss_cons (ps_asg (pe_op op_modN (pe_callTy call_int1 (by rfl) T.int (by decide +kernel) (pa_cons (pe_op op_mul (pe_op op_add (pe_op op_add (pv 3) (pe_op op_mul (pe_op op_mul pe_int (pv 4)) (pv 4))) (pe_op op_mul pe_int (pv 4))) (pe_op op_add pe_int (pe_op op_mul pe_int (pv 4)))) pa_nil)) (pv 5)) (pg_name (i := 6) nd rfl (Or.inl rfl)))
          (pss_one (ps_asg (pe_op op_add (pe_op op_mul (pe_ix ix_list (pv 0) pe_int (fun _ _ => rfl)) (pv 5)) (pe_op op_modN (pe_callTy call_int1 (by rfl) T.int (by decide +kernel) (pa_cons (pe_op op_pow (pv 6) pe_int) pa_nil)) (pv 5))) (pg_sub (pv 0) pe_int set_list)))))))
        pss_nil)))))))), ?_⟩
    refine ⟨_, rfl, _, _, _, _, rfl, rfl, SqL.of hs, rfl, _, rfl, _, _, _, _, rfl, rfl, SqL.of hs, rfl, _, _, rfl, ?_⟩
    refine ⟨_, rfl, _, _, rfl, rfl, .inl ⟨by decide, by decide⟩, _, _, rfl, rfl, ?_⟩
    refine ⟨fun σ' H' => H' = H ∧ ∃ z : Int, σ' = [some (.ref st), some (.ref c), some (.int n), some (.int z), none, none, none], ?_, ?_⟩
    · refine ⟨_, rfl, _, _, rfl, .inl ⟨_, SqL.of hc, rfl⟩, _, _, rfl, rfl, _, rfl, ?_⟩
      refine ite2 (fun h0 => ?_) (fun _ => ⟨rfl, _, rfl⟩)
      have hl0 : (0 : Int) < ((ns.map V.int).length : Int) := of_decide_eq_true h0
      have hlen : (ns.map V.int).length = ns.length := List.length_map ..
      have hm0 : 0 ≤ n.fmod ((ns.map V.int).length : Int) := Int.fmod_nonneg_of_pos n hl0
      have hm1 : n.fmod ((ns.map V.int).length : Int) < ((ns.map V.int).length : Int) := Int.fmod_lt_of_pos n hl0
      obtain ⟨j, hj⟩ := Int.eq_ofNat_of_zero_le hm0
      have hjl : j < ns.length := by omega
      refine ⟨_, rfl, _, rfl, _, _, rfl, .inl ⟨_, SqL.of hc, rfl⟩, _, _, rfl, rfl, ⟨by omega, by omega⟩, _, _, rfl, rfl, .inl ⟨by decide, by decide⟩, ?_⟩
      refine ⟨_, rfl, _, rfl, .inl ⟨_, rfl, ?_⟩⟩
      refine ⟨_, rfl, _, _, rfl, .inl ⟨_, SqL.of hc, rfl⟩, _, _, rfl, rfl, by omega, ?_⟩
      refine ⟨_, _, _, .int ns[j], rfl, rfl, SqL.of hc, ?_, _, _, rfl, rfl, rfl, _, rfl⟩
      rw [hj]
      exact atI_nat (by simp [hjl])
    · rintro σ' H' ⟨rfl, z, rfl⟩
      -- state[1] = nth + 1; state[3] = ..
      refine ⟨_, rfl, _, _, rfl, rfl, _, rfl, _, _, _, _, rfl, rfl, hs, rfl, ?_⟩
      refine ⟨fun σ' H1 => σ' = [some (.ref st), some (.ref c), some (.int n), some (.int z), none, none, none] ∧ ∃ b2, H1 = upd H' st (.lst [.ref c, .int (n + 1), .int v, .bl b2]), ?_, ?_⟩
      · refine ⟨_, rfl, _, rfl, _, _, rfl, .inl ⟨_, SqL.of (Eq.trans (upd_ne hne) hc), rfl⟩, _, _, rfl, rfl, _, rfl, ?_⟩
        refine ite2 (fun h0 => ?_) (fun _ => ?_)
        · exact ⟨_, rfl, _, _, _, _, rfl, rfl, upd_same, rfl, rfl, _, upd_upd⟩
        · refine ⟨_, rfl, _, _, rfl, rfl, ⟨by decide, by decide, by decide⟩, _, _, rfl, rfl, ?_⟩
          exact ⟨_, rfl, _, _, _, _, rfl, rfl, upd_same, rfl, rfl, _, upd_upd⟩
      · rintro σ' H1 ⟨rfl, b2, rfl⟩
        refine ⟨_, rfl, _, _, rfl, rfl, ⟨by decide, by decide, by decide⟩, _, _, rfl, rfl, _, rfl, _, _, _, _, rfl, rfl, upd_same, rfl, ?_⟩
        rw [upd_upd]
        refine ⟨_, rfl, _, _, _, _, rfl, rfl, SqL.of upd_same, rfl, _, rfl, ?_⟩
        refine ite2 (fun h0 => ?_) (fun _ => ?_)
        · refine ⟨_, rfl, _, _, _, _, rfl, rfl, upd_same, rfl, ?_⟩
          rw [upd_upd]
          refine ⟨by decide, fun tp htp => ⟨_, _, rfl, SqT.of upd_same, ?_⟩⟩
          have dr2 := (dr.put (n := n + 1) (v := 0) (b := b2) (by omega)).new (o := .tup [.int 2147483647, .int 2147483629, .int 2147483587, .int 2147483579, .int 2147483563]) htp
          refine for_it (walk_enumT (xs := [.int 2147483647, .int 2147483629, .int 2147483587, .int 2147483579, .int 2147483563])) (fun i σ H2 => (∃ o4 o5 o6, σ = [some (.ref st), some (.ref c), some (.int n), some (.int z), o4, o5, o6]) ∧ Drw H2 st c ns ∧ But st H' H2 ∧ H2 tp = some (.tup [.int 2147483647, .int 2147483629, .int 2147483587, .int 2147483579, .int 2147483563]))
            ⟨⟨_, _, _, rfl⟩, dr2, (But.refl _ _).upd.new htp, upd_same⟩ (fun i σ H2 _ q => SqT.of q.2.2.2) ?_ ?_
          · rintro i x σ H2 H3 hi ⟨⟨o4, o5, o6, rfl⟩, d2, b2', ht⟩ ⟨T2, i', pr, rfl, hT2, rfl, ei, ep⟩
            obtain rfl : V.int (i : Nat) = i' := Option.some.inj ei
            have hi5 : i < 5 := hi
            obtain ⟨q, rfl, q0, q1⟩ : ∃ q : Int, pr = .int q ∧ 0 < q ∧ q < 4294967296 := by
              have hh : i = 0 ∨ i = 1 ∨ i = 2 ∨ i = 3 ∨ i = 4 := by omega
              rcases hh with rfl | rfl | rfl | rfl | rfl <;> exact ⟨_, (Option.some.inj ep).symm, by decide, by decide⟩
            have d3 := d2.new (o := .tup [.int (i : Nat), .int q]) hT2
            obtain ⟨hc3, n3, v3, b3, n30, hs3⟩ := id d3
            have hst : st ≠ tp := ne_of d2.2.choose_spec.choose_spec.choose_spec.2 ht (by intro z; cases z)
            refine ⟨_, _, rfl, SqT.of upd_same, rfl, _, _, rfl, _, _, rfl, rfl, ?_⟩
            have mI : (-18446744073709551616 : Int) < (i : Int) ∧ (i : Int) < 18446744073709551616 := ⟨by omega, by omega⟩
            refine ⟨_, rfl, _, rfl, _, _, rfl, rfl, .inr mI, _, rfl, _, _, rfl, rfl, .inr mI, _, _, rfl, rfl, _, rfl, _, _, rfl, rfl, .inr mI, _, _, rfl, rfl, _, rfl, _, _, rfl, rfl, .inr mI, _, _, rfl, rfl, _, _, rfl, rfl, .inr ⟨by omega, by omega⟩, .inl ⟨_, rfl, ?_⟩⟩
            refine ⟨_, rfl, _, _, rfl, rfl, by omega, ?_⟩
            have pB : ∀ x : Int, (x.fmod q).natAbs < 2 ^ 64 := fun x => by
              have f0 := Int.fmod_nonneg_of_pos x q0
              have f1 := Int.fmod_lt_of_pos x q0
              omega
            refine ⟨_, rfl, _, _, _, _, rfl, rfl, SqL.of hs3, rfl, _, rfl, _, _, rfl, rfl, .inr ⟨by omega, by omega⟩, _, rfl, _, _, rfl, rfl, ⟨by decide, by decide, pB _⟩, .inl ⟨_, rfl, ?_⟩⟩
            refine ⟨_, rfl, _, _, rfl, rfl, by omega, _, _, rfl, rfl, _, rfl, _, _, _, _, rfl, rfl, hs3, rfl, ?_⟩
            exact ⟨⟨_, _, _, rfl⟩, d3.put n30, (b2'.new hT2).upd, by rw [upd_ne hst.symm, upd_ne (ne_of_none ht hT2)]; exact ht⟩
          · rintro σ H2 ⟨⟨o4, o5, o6, rfl⟩, d2, b2', ht⟩
            exact k _ d2 b2'
        · exact k _ (dr.put (by omega)) (But.refl _ _).upd
def spTake : Sp := fun vs H Q _ => ∃ (st c : Addr) (ns : List Int) (m : Int), vs = [.ref st, .int m] ∧ Drw H st c ns ∧ ns.length ≤ 63 ∧ 0 < m ∧ m ≤ 10000 ∧
  ∀ (d : Int) (H' : Hp), 0 ≤ d → d < m → Drw H' st c ns → But st H H' → Q (.int d) H'
theorem scTake : FnScope ["_law_state", "_law_many", "_law_turns", "_law_digit"] ["_law_state", "_law_many"] (defScope sTake) := ⟨rfl, rfl, rfl, by decide +kernel, rfl, by decide +kernel, by decide +kernel⟩
theorem pr_take (D : Df K mg "_law_take" sTake ["_law_state", "_law_many"]) (T : Tx mg) (PF : Pr P w K mg base 1 "_law_fill" ["_law_state"] spFill) : Pr P w K mg base 2 "_law_take" ["_law_state", "_law_many"] spTake := by
  refine D.pr scTake (fun vs H Q E h => ?_) (fun f cdv A outer s H vs Q E hr h => ?_)
  · obtain ⟨p, c, ns, m, rfl, _⟩ := h
    rfl
  · obtain ⟨st, c, ns, m, rfl, dr, hn, m0, m1, k⟩ := h
    have nd := scTake.nd
    refine ⟨_, (pss_cons (ps_asg pe_int (pg_name (i := 2) nd rfl (Or.inl rfl)))
      (Evl.pss_cut (ps_while PassesOwn.never (PW.pt (pw_and (pt_cmpR op_lt (pv 2) pe_int (nomark _)) (pw_and1 (PW.pt (pw_or (pt_cmpR op_eq (pe_ix ix_list (pv 0) pe_int (fun _ _ => rfl)) pe_int (nomark _)) (pw_or1 (PW.pt (pw_and (pt_val (pe_ix ix_list (pv 0) pe_int (fun _ _ => rfl))) (pw_and1 (pt_cmpR op_lt (pe_ix ix_list (pv 0) pe_int (fun _ _ => rfl)) (pe_op op_mul (pv 1) pe_int) (nomark _)))))))))))
        (pss_cons (ps_expr (pe_callP PF hr (by rfl) (pa_cons (pv 0) pa_nil)))
        (pss_cons (ps_aug (i := 2) nd rfl (Or.inl rfl) pe_int ip_add)
        (pss_one (ps_if (PW.pt (pw_and (pt_val (pe_ix ix_list (pv 0) pe_int (fun _ _ => rfl))) (pw_and1 (pt_cmpR op_lt (pe_ix ix_list (pv 0) pe_int (fun _ _ => rfl)) (pe_op op_mul (pv 1) pe_int) (nomark _)))))
          (pss_one (ps_asg (pe_op op_add (pe_ix ix_list (pv 0) pe_int (fun _ _ => rfl)) (pe_op op_mul (pe_op op_mul (pv 1) pe_int) (pe_op op_add pe_int (pe_op op_modN (pe_callTy call_int1 (by rfl) T.int (by decide +kernel) (pa_cons (pe_ix ix_list (pv 0) pe_int (fun _ _ => rfl)) pa_nil)) pe_int)))) (pg_sub (pv 0) pe_int set_list)))
          pss_nil)))))
      (pss_cons (ps_asg (pe_op op_modN (pe_callTy call_int1 (by rfl) T.int (by decide +kernel) (pa_cons (pe_ix ix_list (pv 0) pe_int (fun _ _ => rfl)) pa_nil)) (pv 1)) (pg_name (i := 3) nd rfl (Or.inl rfl)))
      (pss_cons (ps_asg (pe_op op_fdivN (pe_ix ix_list (pv 0) pe_int (fun _ _ => rfl)) (pv 1)) (pg_sub (pv 0) pe_int set_list))
      (pss_one (ps_ret (pv 3))))))), ?_⟩
    refine ⟨fun σ' H1 => ∃ (t : Int) (o3 : Option V), σ' = [some (.ref st), some (.int m), some (.int t), o3] ∧ Drw H1 st c ns ∧ But st H H1, ?_, ?_⟩
    · refine ⟨fun j σ H1 => ∃ (t : Int) (o3 : Option V), σ = [some (.ref st), some (.int m), some (.int t), o3] ∧ 0 ≤ t ∧ (j : Int) = 64 - t ∧ Drw H1 st c ns ∧ But st H H1, ⟨64, 0, _, rfl, by decide, rfl, dr, But.refl _ _⟩, ?_⟩
      rintro j σ H1 ⟨t, o3, rfl, t0, hj, d1, b1⟩
      obtain ⟨hc, n, v, b, n0, hs⟩ := id d1
      refine ⟨_, rfl, _, _, rfl, rfl, _, rfl, ?_⟩
      refine ite2 (fun ht => ?_) (fun _ => ?_)
      · have ht' : t < 64 := of_decide_eq_true ht
        refine tt_any (fun K' kT kF => ?_) ?_ ?_
        · refine ⟨_, rfl, _, _, _, _, rfl, rfl, SqL.of hs, rfl, rfl, _, rfl, ?_⟩
          refine ite2 (fun _ => kT) (fun _ => ?_)
          refine ⟨_, rfl, _, _, _, _, rfl, rfl, SqL.of hs, rfl, _, rfl, ?_⟩
          refine ite2 (fun _ => ?_) (fun _ => kF)
          refine ⟨_, rfl, _, _, _, _, rfl, rfl, SqL.of hs, rfl, _, rfl, _, _, rfl, rfl, .inr ⟨by decide, by decide⟩, _, _, rfl, rfl, _, rfl, ?_⟩
          exact ite3 (fun _ => kT) (fun _ => kF)
        · refine iteT ⟨fun σ' H2 => ∃ o3', σ' = [some (.ref st), some (.int m), some (.int (t + 1)), o3'] ∧ Drw H2 st c ns ∧ But st H H2, fun σ' H2 ⟨o3', e, d2, b2⟩ => ⟨j - 1, by omega, t + 1, o3', e, by omega, by omega, d2, b2⟩, ?_⟩
          refine ⟨_, rfl, st, c, ns, rfl, d1, hn, fun H2 d2 b2 => ?_⟩
          obtain ⟨hc2, n2, v2, w2, n20, hs2⟩ := id d2
          refine ⟨_, rfl, _, _, rfl, rfl, ?_⟩
          dsimp only
          unfold tIfS
          refine tt_any (fun K' kT kF => ?_) ?_ ?_
          · refine ⟨_, rfl, _, _, _, _, rfl, rfl, SqL.of hs2, rfl, _, rfl, ?_⟩
            refine ite2 (fun _ => ?_) (fun _ => kF)
            refine ⟨_, rfl, _, _, _, _, rfl, rfl, SqL.of hs2, rfl, _, rfl, _, _, rfl, rfl, .inr ⟨by decide, by decide⟩, _, _, rfl, rfl, _, rfl, ?_⟩
            exact ite3 (fun _ => kT) (fun _ => kF)
          · refine iteT ?_
            refine ⟨_, rfl, _, _, _, _, rfl, rfl, SqL.of hs2, rfl, _, rfl, _, _, rfl, rfl, .inr ⟨by decide, by decide⟩, ?_⟩
            refine ⟨_, rfl, _, _, _, _, rfl, rfl, SqL.of hs2, rfl, .inl ⟨_, rfl, ?_⟩⟩
            refine ⟨_, _, rfl, rfl, (by show (4093 : Int) ≠ 0; decide), _, _, rfl, rfl, _, _, rfl, rfl, .inl ⟨by omega, by omega⟩, _, _, rfl, rfl, _, rfl, _, _, _, _, rfl, rfl, hs2, rfl, ?_⟩
            exact ⟨_, rfl, d2.put n20, (b1.trans b2).upd⟩
          · refine iteF ?_
            exact ⟨_, rfl, d2, b1.trans b2⟩
        · exact iteF ⟨_, _, rfl, d1, b1⟩
      · exact iteF ⟨_, _, rfl, d1, b1⟩
    · rintro σ' H1 ⟨t, o3, rfl, d1, b1⟩
      obtain ⟨hc, n, v, b, n0, hs⟩ := id d1
      refine ⟨_, rfl, _, _, _, _, rfl, rfl, SqL.of hs, rfl, .inl ⟨_, rfl, ?_⟩⟩
      refine ⟨_, rfl, _, _, rfl, rfl, by omega, ?_⟩
      refine ⟨_, rfl, _, _, _, _, rfl, rfl, SqL.of hs, rfl, _, rfl, _, _, rfl, rfl, ⟨by omega, by omega⟩, _, rfl, _, _, _, _, rfl, rfl, hs, rfl, ?_⟩
      exact ⟨_, rfl, k _ _ (Int.fmod_nonneg_of_pos _ m0) (Int.fmod_lt_of_pos _ m0) (d1.put n0) b1.upd⟩
/-- one of the things of a list or tuple -/
def spOne (K : PySem.W.Frag) : Sp := fun vs H Q _ => ∃ (st c a : Addr) (ns : List Int) (xs : List V), vs = [.ref st, .ref a] ∧ Drw H st c ns ∧ ns.length ≤ 63 ∧ a ≠ st ∧ (SqL K H a xs ∨ SqT K H a xs) ∧ 0 < xs.length ∧ xs.length ≤ 10000 ∧
  ∀ (x : V) (H' : Hp), x ∈ xs → Drw H' st c ns → But st H H' → Q x H'
theorem scOne : FnScope ["_law_state", "_law_things"] ["_law_state", "_law_things"] (defScope sOne) := ⟨rfl, rfl, rfl, by decide +kernel, rfl, by decide +kernel, by decide +kernel⟩
theorem pr_one (D : Df K mg "_law_one" sOne ["_law_state", "_law_things"]) (T : Tx mg) (PT : Pr P w K mg base 2 "_law_take" ["_law_state", "_law_many"] spTake) : Pr P w K mg base 3 "_law_one" ["_law_state", "_law_things"] (spOne K) := by
  refine D.pr scOne (fun vs H Q E h => ?_) (fun f cdv A outer s H vs Q E hr h => ?_)
  · obtain ⟨p, c, a, ns, xs, rfl, _⟩ := h
    rfl
  · obtain ⟨st, c, a, ns, xs, rfl, dr, hn, hne, hx, x0, x1, k⟩ := h
    refine ⟨_, (pss_one (ps_ret (pe_ix ix_seq (pv 1) (pe_callP PT hr (by rfl) (pa_cons (pv 0) (pa_cons (pe_callB call_len (by rfl) T.len PySem.boot_len (pa_cons (pv 1) pa_nil)) pa_nil))) (fun _ _ => rfl)))), ?_⟩
    refine ⟨_, rfl, _, rfl, _, rfl, _, xs.length, rfl, ?_, ?_⟩
    · rcases hx with h | h
      · exact .inl ⟨_, h, rfl⟩
      · exact .inr ⟨_, h, rfl⟩
    · refine ⟨st, c, ns, _, rfl, dr, hn, by omega, by omega, fun d H' d0 d1 dr' bt => ?_⟩
      obtain ⟨j, rfl⟩ := Int.eq_ofNat_of_zero_le d0
      have hj : j < xs.length := by omega
      rcases hx with h | h
      · exact .inl ⟨_, _, _, _, rfl, rfl, My.But.sqL bt hne h, atI_nat (List.getElem?_eq_getElem hj), k _ _ (List.getElem_mem hj) dr' bt⟩
      · exact .inr (.inl ⟨_, _, _, _, rfl, rfl, My.But.sqT bt hne h, atI_nat (List.getElem?_eq_getElem hj), k _ _ (List.getElem_mem hj) dr' bt⟩)
def spFresh (K : PySem.W.Frag) : Sp := fun vs H Q _ => ∃ (a : Addr) (ns : List Int), vs = [.ref a] ∧ SqL K H a (ns.map V.int) ∧ ns.length ≤ 63 ∧
  ∀ (st c : Addr) (H' : Hp), H st = none → H c = none → Drw H' st c ns → Same H H' → Q (.ref st) H'
theorem scFresh : FnScope ["_law_script_here"] ["_law_script_here"] (defScope sFresh) := ⟨rfl, rfl, rfl, by decide +kernel, rfl, by decide +kernel, by decide +kernel⟩
theorem pr_fresh (D : Df K mg "_law_fresh" sFresh ["_law_script_here"]) : Pr P w K mg base 1 "_law_fresh" ["_law_script_here"] (spFresh K) := by
  refine D.pr scFresh (fun vs H Q E h => ?_) (fun f cdv A outer s H vs Q E hr h => ?_)
  · obtain ⟨a, ns, rfl, _⟩ := h
    rfl
  · obtain ⟨a, ns, rfl, ha, hn, k⟩ := h
    refine ⟨_, (pss_one (ps_ret (pe_lst (pa_cons (pe_slice sl_list (pv 0) po_none (po_some pe_int)) (pa_cons pe_int (pa_cons pe_int (pa_cons pe_bl pa_nil))))))), ?_⟩
    refine ⟨_, rfl, _, rfl, _, _, rfl, ha, fun c hc => ⟨(by show 4 ≤ sizeLine; decide), fun st hst => ?_⟩⟩
    have e : cutV (ns.map V.int) none (some 63) = ns.map V.int := by
      have h1 : HT.sIx (ns.map V.int).length 0 none = 0 := rfl
      have h2 : (ns.map V.int).length ≤ HT.sIx (ns.map V.int).length (ns.map V.int).length (some 63) := by
        rw [List.length_map]
        show ns.length ≤ HT.sIx ns.length ns.length (some 63)
        unfold HT.sIx
        simp
        omega
      unfold cutV
      rw [h1, List.drop_zero, Nat.sub_zero, List.take_of_length_le h2]
    have hst0 : H st = none := by
      by_cases q : st = c
      · rw [q, upd_same] at hst
        cases hst
      · rw [upd_ne q] at hst
        exact hst
    refine k st c _ hst0 hc ⟨?_, 0, 0, false, by decide, upd_same⟩ fun b o hb => ?_
    · rw [upd_ne (ne_of_none upd_same hst), upd_same, e]
    · rw [upd_ne (ne_of_none hb hst0), upd_ne (ne_of_none hb hc)]
      exact hb
end
end C83

set_option Elab.async false
set_option maxRecDepth 100000
set_option maxHeartbeats 4000000
set_option linter.all false
namespace C83
open PySem L2 My
abbrev sSame : Stmt := top 34
structure Ty (mg : Str → Option Value) : Prop where
  len : mg "len" = none
  int : mg "int" = none
  bool : mg "bool" = none
  list : mg "list" = none
  tuple : mg "tuple" = none
  isinstance : mg "isinstance" = none
  all : mg "all" = none
  zip : mg "zip" = none
def spS : Nat → Sp
  | 0 => fun _ _ _ _ => False
  | n + 1 => spSame n
section
variable {P : Program} {w : World} {K : PySem.W.Frag} {mg : Str → Option Value} {base : Heap}
abbrev nSame : List Str := ["_law_found", "_law_due", "_law_a", "_law_b"]
theorem scSame : FnScope nSame ["_law_found", "_law_due"] (defScope sSame) := ⟨rfl, rfl, rfl, by decide +kernel, rfl, by decide +kernel, by decide +kernel⟩
theorem step_same {n : Nat} (D : Df K mg "_law_same" sSame ["_law_found", "_law_due"]) (T : Ty mg) (PS : Pr P w K mg base n "_law_same" ["_law_found", "_law_due"] (spS n)) : Pr P w K mg base (n + 1) "_law_same" ["_law_found", "_law_due"] (spSame n) := by
  refine D.pr scSame (fun vs H Q E h => ?_) (fun f cdv A outer s H vs Q E hr h => ?_)
  · obtain ⟨m, x, y, d, o, rfl, _⟩ := h
    rfl
  · obtain ⟨m, x, y, d, o, rfl, hm, hx, hy, lv, k⟩ := h
    have nd := scSame.nd
    refine ⟨_, (pss_cons (ps_if (pt_val (pe_callB call_isiT (by rfl) T.isinstance (by decide +kernel) (pa_cons (pv 1) (pa_cons (pe_tup (pa_cons (pe_bltn (v := .ty "list") (by rfl) T.list (by decide +kernel) rfl) (pa_cons (pe_bltn (v := .ty "tuple") (by rfl) T.tuple (by decide +kernel) rfl) pa_nil))) pa_nil))))
        (pss_cons (ps_if (PW.pt (pw_or (pt_cmpR op_ne (pe_callB call_isi (by rfl) T.isinstance (by decide +kernel) (pa_cons (pv 0) (pa_cons (pe_bltn (v := .ty "list") (by rfl) T.list (by decide +kernel) rfl) pa_nil))) (pe_callB call_isi (by rfl) T.isinstance (by decide +kernel) (pa_cons (pv 1) (pa_cons (pe_bltn (v := .ty "list") (by rfl) T.list (by decide +kernel) rfl) pa_nil))) (nomark _)) (pw_or1 (pt_cmpR op_ne (pe_callB call_isi (by rfl) T.isinstance (by decide +kernel) (pa_cons (pv 0) (pa_cons (pe_bltn (v := .ty "tuple") (by rfl) T.tuple (by decide +kernel) rfl) pa_nil))) (pe_callB call_isi (by rfl) T.isinstance (by decide +kernel) (pa_cons (pv 1) (pa_cons (pe_bltn (v := .ty "tuple") (by rfl) T.tuple (by decide +kernel) rfl) pa_nil))) (nomark _)))))
          (pss_one (ps_ret pe_bl))
          pss_nil)
        (pss_one (ps_ret (pe_and (pe_cmpR op_eq (pe_callB call_len (by rfl) T.len PySem.boot_len (pa_cons (pv 0) pa_nil)) (pe_callB call_len (by rfl) T.len PySem.boot_len (pa_cons (pv 1) pa_nil)) (nomark _)) (pe_one (pe_callB (cr_all rfl) (by rfl) T.all (by decide +kernel) (pa_cons (pe_lc (own := [("_law_a", 2), ("_law_b", 3)]) (g := gTup K 2 (gCons (gName 2) (gCons (gName 3) gNil))) (tt := tYes) (by rfl) nd (RZ.pi_zipA (by rfl) T.zip (pa_cons (pv 0) (pa_cons (pv 1) pa_nil)))
  (blkOk_by (own := [("_law_a", 2), ("_law_b", 3)]) (N := nSame) (sc := defScope sSame) (by decide +kernel))
  (fun _ _ _ _ _ => pg_tup rfl (pgs_cons (pg_name (i := 2) nd rfl (Or.inl rfl) (Or.inr rfl)) (pgs_cons (pg_name (i := 3) nd rfl (Or.inl rfl) (Or.inr rfl)) pgs_nil))) (fun _ _ _ _ _ => pts_nil)
  (fun _ _ _ _ _ => (pe_callP PS hr (by rfl) (pa_cons (pv 2) (pa_cons (pv 3) pa_nil))))) pa_nil)))))))
        pss_nil)
      (pss_cons (ps_if (pt_val (pe_callB call_isi (by rfl) T.isinstance (by decide +kernel) (pa_cons (pv 1) (pa_cons (pe_bltn (v := .ty "int") (by rfl) T.int (by decide +kernel) rfl) pa_nil))))
        (pss_one (ps_ret (pe_and (pe_callB call_isi (by rfl) T.isinstance (by decide +kernel) (pa_cons (pv 0) (pa_cons (pe_bltn (v := .ty "int") (by rfl) T.int (by decide +kernel) rfl) pa_nil))) (pe_and (pe_cmpR op_eq (pe_callB call_isi (by rfl) T.isinstance (by decide +kernel) (pa_cons (pv 0) (pa_cons (pe_bltn (v := .ty "bool") (by rfl) T.bool (by decide +kernel) rfl) pa_nil))) (pe_callB call_isi (by rfl) T.isinstance (by decide +kernel) (pa_cons (pv 1) (pa_cons (pe_bltn (v := .ty "bool") (by rfl) T.bool (by decide +kernel) rfl) pa_nil))) (nomark _)) (pe_one (pe_cmpR op_eq (pv 0) (pv 1) (nomark _)))))))
        pss_nil)
      (pss_one (ps_ret (pe_and (pe_cmpR op_isBl (pe_callB call_isiT (by rfl) T.isinstance (by decide +kernel) (pa_cons (pv 0) (pa_cons (pe_tup (pa_cons (pe_bltn (v := .ty "bool") (by rfl) T.bool (by decide +kernel) rfl) (pa_cons (pe_bltn (v := .ty "int") (by rfl) T.int (by decide +kernel) rfl) (pa_cons (pe_bltn (v := .ty "list") (by rfl) T.list (by decide +kernel) rfl) (pa_cons (pe_bltn (v := .ty "tuple") (by rfl) T.tuple (by decide +kernel) rfl) pa_nil))))) pa_nil))) pe_bl (nomark _)) (pe_one (pe_cmpR op_eq (pv 0) (pv 1) (nomark _)))))))), ?_⟩
    refine ⟨_, rfl, (by show 2 ≤ sizeLine; decide), fun tp htp => ?_⟩
    have s1 : Same H (upd H tp (.tup [.ty "list", .ty "tuple"])) := fun b o e => by
      rw [upd_ne (ne_of_none e htp)]
      exact e
    have hx1 := hx.mono (Same.but s1)
    have hy1 := hy.mono (Same.but s1)
    have hxs : ∀ H', Same H H' → At m H' x d := fun H' s => hx.mono (Same.but s)
    cases lv with
    | non n =>
      cases hx
      cases hy
      refine ⟨_, _, _, _, _, false, rfl, upd_same, cls_all ["list", "tuple"], (hy1).ty, kit_any k_NoneType_lt, ?_⟩
      refine ⟨_, rfl, iteF ?_⟩
      refine ⟨_, rfl, ?_⟩
      refine ⟨_, _, _, _, false, rfl, .ty _, hy1.ty, kit_ty k_NoneType_int, ?_⟩
      refine ⟨_, rfl, iteF ?_⟩
      refine ⟨_, rfl, (by show 4 ≤ sizeLine; decide), fun tq htq => ?_⟩
      have s2 : Same H (upd (upd H tp (.tup [.ty "list", .ty "tuple"])) tq (.tup [.ty "bool", .ty "int", .ty "list", .ty "tuple"])) := fun b o e => by
        rw [upd_ne (ne_of_none (s1 _ _ e) htq)]
        exact s1 _ _ e
      refine ⟨_, _, _, _, _, false, rfl, upd_same, cls_all ["bool", "int", "list", "tuple"], (hxs _ s2).ty, kit_any k_NoneType_bilt, ?_⟩
      refine ⟨_, _, rfl, rfl, _, rfl, iteT ?_⟩
      refine ⟨_, rfl, _, rfl, rfl, ?_⟩
      rw [decide_eq_true rfl]
      exact k _ s2
    | bl n b =>
      cases hx
      cases hy
      refine ⟨_, _, _, _, _, false, rfl, upd_same, cls_all ["list", "tuple"], (hy1).ty, kit_any k_bool_lt, ?_⟩
      refine ⟨_, rfl, iteF ?_⟩
      refine ⟨_, rfl, ?_⟩
      refine ⟨_, _, _, _, true, rfl, .ty _, hy1.ty, kit_ty k_bool_int, ?_⟩
      refine ⟨_, rfl, iteT ?_⟩
      refine ⟨_, rfl, ?_⟩
      refine ⟨_, _, _, _, true, rfl, .ty _, hx1.ty, kit_ty k_bool_int, ?_⟩
      refine ⟨_, rfl, iteT ?_⟩
      refine ⟨_, rfl, ?_⟩
      refine ⟨_, _, _, _, true, rfl, .ty _, hx1.ty, kit_ty k_bool_bool, ?_⟩
      refine ⟨_, rfl, ?_⟩
      refine ⟨_, _, _, _, true, rfl, .ty _, hy1.ty, kit_ty k_bool_bool, ?_⟩
      refine ⟨rfl, _, rfl, iteT ?_⟩
      refine ⟨_, rfl, _, rfl, rfl, ?_⟩
      rw [decide_eq_true rfl]
      exact k _ s1
    | int n i =>
      cases hx
      cases hy
      refine ⟨_, _, _, _, _, false, rfl, upd_same, cls_all ["list", "tuple"], (hy1).ty, kit_any k_int_lt, ?_⟩
      refine ⟨_, rfl, iteF ?_⟩
      refine ⟨_, rfl, ?_⟩
      refine ⟨_, _, _, _, true, rfl, .ty _, hy1.ty, kit_ty k_int_int, ?_⟩
      refine ⟨_, rfl, iteT ?_⟩
      refine ⟨_, rfl, ?_⟩
      refine ⟨_, _, _, _, true, rfl, .ty _, hx1.ty, kit_ty k_int_int, ?_⟩
      refine ⟨_, rfl, iteT ?_⟩
      refine ⟨_, rfl, ?_⟩
      refine ⟨_, _, _, _, false, rfl, .ty _, hx1.ty, kit_ty k_int_bool, ?_⟩
      refine ⟨_, rfl, ?_⟩
      refine ⟨_, _, _, _, false, rfl, .ty _, hy1.ty, kit_ty k_int_bool, ?_⟩
      refine ⟨rfl, _, rfl, iteT ?_⟩
      refine ⟨_, rfl, _, rfl, rfl, ?_⟩
      rw [decide_eq_true rfl]
      exact k _ s1
    | str n z =>
      cases hx
      cases hy
      refine ⟨_, _, _, _, _, false, rfl, upd_same, cls_all ["list", "tuple"], (hy1).ty, kit_any k_str_lt, ?_⟩
      refine ⟨_, rfl, iteF ?_⟩
      refine ⟨_, rfl, ?_⟩
      refine ⟨_, _, _, _, false, rfl, .ty _, hy1.ty, kit_ty k_str_int, ?_⟩
      refine ⟨_, rfl, iteF ?_⟩
      refine ⟨_, rfl, (by show 4 ≤ sizeLine; decide), fun tq htq => ?_⟩
      have s2 : Same H (upd (upd H tp (.tup [.ty "list", .ty "tuple"])) tq (.tup [.ty "bool", .ty "int", .ty "list", .ty "tuple"])) := fun b o e => by
        rw [upd_ne (ne_of_none (s1 _ _ e) htq)]
        exact s1 _ _ e
      refine ⟨_, _, _, _, _, false, rfl, upd_same, cls_all ["bool", "int", "list", "tuple"], (hxs _ s2).ty, kit_any k_str_bilt, ?_⟩
      refine ⟨_, _, rfl, rfl, _, rfl, iteT ?_⟩
      refine ⟨_, rfl, _, rfl, rfl, ?_⟩
      rw [decide_eq_true rfl]
      exact k _ s2
    | lst sz lv0 =>
      rename_i n0 ds0
      obtain ⟨a, xs, nx, ex, qx⟩ : ∃ a xs, a ≠ m ∧ (x = .ref a ∧ H a = some (.lst xs)) ∧ AtAll m H xs ds0 := by
        cases hx with
        | lst n0 h0 q0 => exact ⟨_, _, n0, ⟨rfl, h0⟩, q0⟩
      obtain ⟨b, ys, ny, ey, qy⟩ : ∃ b ys, b ≠ m ∧ (y = .ref b ∧ H b = some (.lst ys)) ∧ AtAll m H ys ds0 := by
        cases hy with
        | lst n0 h0 q0 => exact ⟨_, _, n0, ⟨rfl, h0⟩, q0⟩
      obtain ⟨rfl, ex⟩ := ex
      obtain ⟨rfl, ey⟩ := ey
      have lx := qx.length
      have ly := qy.length
      refine ⟨_, _, _, _, _, true, rfl, upd_same, cls_all ["list", "tuple"], (hy1).ty, kit_any k_list_lt, ?_⟩
      refine ⟨_, rfl, iteT ?_⟩
      refine ⟨_, rfl, ?_⟩
      refine ⟨_, _, _, _, true, rfl, .ty _, hx1.ty, kit_ty k_list_list, ?_⟩
      refine ⟨_, rfl, ?_⟩
      refine ⟨_, _, _, _, true, rfl, .ty _, hy1.ty, kit_ty k_list_list, ?_⟩
      refine ⟨rfl, _, rfl, iteF ?_⟩
      refine ⟨_, rfl, ?_⟩
      refine ⟨_, _, _, _, false, rfl, .ty _, hx1.ty, kit_ty k_list_tuple, ?_⟩
      refine ⟨_, rfl, ?_⟩
      refine ⟨_, _, _, _, false, rfl, .ty _, hy1.ty, kit_ty k_list_tuple, ?_⟩
      refine ⟨rfl, _, rfl, iteF ?_⟩
      refine ⟨_, rfl, _, _, rfl, .inl ⟨_, SqL.of (s1 _ _ ex), rfl⟩, _, rfl, _, _, rfl, .inl ⟨_, SqL.of (s1 _ _ ey), rfl⟩, rfl, ?_⟩
      have el : decide (V.int (xs.length : Int) = V.int (ys.length : Int)) = true := decide_eq_true (by rw [lx, ly])
      refine ⟨true, congrArg V.bl el, iteT ?_⟩
      refine ⟨_, rfl, _, rfl, _, _, _, _, rfl, .inl ⟨SqL.of (s1 _ _ ex), SqL.of (s1 _ _ ey), ?_⟩⟩
      intro Dl hD
      refine lc_it (walk_zipL (lx.trans ly.symm)) (fun i H2 => Same H H2 ∧ H Dl = none ∧ H2 Dl = some (.lst ((List.replicate i true).map V.bl))) ?_ ?_ ?_ ?_
      · exact ⟨fun b o e => by rw [upd_ne (ne_of_none (s1 _ _ e) hD)]; exact s1 _ _ e, s1.free hD, upd_same⟩
      · exact fun i H2 _ q => ⟨SqL.of (q.1 _ _ ex), SqL.of (q.1 _ _ ey)⟩
      · rintro i z H2 H3 hi ⟨sm, nD, hl⟩ ⟨T2, u, v, rfl, hT2, rfl, eu, ev⟩
        have nDT : Dl ≠ T2 := ne_of_none hl hT2
        have s3 : Same H (upd H2 T2 (.tup [u, v])) := fun b o e => by
          rw [upd_ne (ne_of_none (sm _ _ e) hT2)]
          exact sm _ _ e
        obtain ⟨du, e1, au⟩ := qx.get eu
        obtain ⟨dv, e2, av⟩ := qy.get ev
        obtain rfl : du = dv := Option.some.inj (e1.symm.trans e2)
        refine ⟨_, _, rfl, SqT.of upd_same, rfl, _, _, rfl, _, _, rfl, rfl, rfl, ?_⟩
        refine ⟨_, rfl, _, rfl, m, u, v, du, o, rfl, s3 _ _ hm, au.mono (Same.but s3), av.mono (Same.but s3), lv0 _ (List.mem_of_getElem? e1), fun H4 s4 => ?_⟩
        refine ⟨_, s4 _ _ (by rw [upd_ne nDT]; exact hl), ?_, ?_⟩
        · rw [List.length_map, List.length_replicate]
          exact small6 (by omega)
        · refine ⟨fun b o e => ?_, nD, ?_⟩
          · rw [upd_ne (ne_of_none e nD)]
            exact s4 _ _ (s3 _ _ e)
          · rw [upd_same, List.replicate_succ', List.map_append]
            rfl
      · rintro H2 ⟨sm, nD, hl⟩
        refine ⟨_, _, rfl, SqL.of hl, ?_⟩
        have ea : (List.replicate xs.length true).all id = true := by
          rw [List.all_eq_true]
          intro b hb
          rw [List.eq_of_mem_replicate hb]
          rfl
        rw [ea]
        exact k _ sm
    | tup sz lv0 =>
      rename_i n0 ds0
      obtain ⟨a, xs, nx, ex, qx⟩ : ∃ a xs, a ≠ m ∧ (x = .ref a ∧ H a = some (.tup xs)) ∧ AtAll m H xs ds0 := by
        cases hx with
        | tup n0 h0 q0 => exact ⟨_, _, n0, ⟨rfl, h0⟩, q0⟩
      obtain ⟨b, ys, ny, ey, qy⟩ : ∃ b ys, b ≠ m ∧ (y = .ref b ∧ H b = some (.tup ys)) ∧ AtAll m H ys ds0 := by
        cases hy with
        | tup n0 h0 q0 => exact ⟨_, _, n0, ⟨rfl, h0⟩, q0⟩
      obtain ⟨rfl, ex⟩ := ex
      obtain ⟨rfl, ey⟩ := ey
      have lx := qx.length
      have ly := qy.length
      refine ⟨_, _, _, _, _, true, rfl, upd_same, cls_all ["list", "tuple"], (hy1).ty, kit_any k_tuple_lt, ?_⟩
      refine ⟨_, rfl, iteT ?_⟩
      refine ⟨_, rfl, ?_⟩
      refine ⟨_, _, _, _, false, rfl, .ty _, hx1.ty, kit_ty k_tuple_list, ?_⟩
      refine ⟨_, rfl, ?_⟩
      refine ⟨_, _, _, _, false, rfl, .ty _, hy1.ty, kit_ty k_tuple_list, ?_⟩
      refine ⟨rfl, _, rfl, iteF ?_⟩
      refine ⟨_, rfl, ?_⟩
      refine ⟨_, _, _, _, true, rfl, .ty _, hx1.ty, kit_ty k_tuple_tuple, ?_⟩
      refine ⟨_, rfl, ?_⟩
      refine ⟨_, _, _, _, true, rfl, .ty _, hy1.ty, kit_ty k_tuple_tuple, ?_⟩
      refine ⟨rfl, _, rfl, iteF ?_⟩
      refine ⟨_, rfl, _, _, rfl, .inr ⟨_, SqT.of (s1 _ _ ex), rfl⟩, _, rfl, _, _, rfl, .inr ⟨_, SqT.of (s1 _ _ ey), rfl⟩, rfl, ?_⟩
      have el : decide (V.int (xs.length : Int) = V.int (ys.length : Int)) = true := decide_eq_true (by rw [lx, ly])
      refine ⟨true, congrArg V.bl el, iteT ?_⟩
      refine ⟨_, rfl, _, rfl, _, _, _, _, rfl, .inr ⟨SqT.of (s1 _ _ ex), SqT.of (s1 _ _ ey), ?_⟩⟩
      intro Dl hD
      refine lc_it (walk_zipT (lx.trans ly.symm)) (fun i H2 => Same H H2 ∧ H Dl = none ∧ H2 Dl = some (.lst ((List.replicate i true).map V.bl))) ?_ ?_ ?_ ?_
      · exact ⟨fun b o e => by rw [upd_ne (ne_of_none (s1 _ _ e) hD)]; exact s1 _ _ e, s1.free hD, upd_same⟩
      · exact fun i H2 _ q => ⟨SqT.of (q.1 _ _ ex), SqT.of (q.1 _ _ ey)⟩
      · rintro i z H2 H3 hi ⟨sm, nD, hl⟩ ⟨T2, u, v, rfl, hT2, rfl, eu, ev⟩
        have nDT : Dl ≠ T2 := ne_of_none hl hT2
        have s3 : Same H (upd H2 T2 (.tup [u, v])) := fun b o e => by
          rw [upd_ne (ne_of_none (sm _ _ e) hT2)]
          exact sm _ _ e
        obtain ⟨du, e1, au⟩ := qx.get eu
        obtain ⟨dv, e2, av⟩ := qy.get ev
        obtain rfl : du = dv := Option.some.inj (e1.symm.trans e2)
        refine ⟨_, _, rfl, SqT.of upd_same, rfl, _, _, rfl, _, _, rfl, rfl, rfl, ?_⟩
        refine ⟨_, rfl, _, rfl, m, u, v, du, o, rfl, s3 _ _ hm, au.mono (Same.but s3), av.mono (Same.but s3), lv0 _ (List.mem_of_getElem? e1), fun H4 s4 => ?_⟩
        refine ⟨_, s4 _ _ (by rw [upd_ne nDT]; exact hl), ?_, ?_⟩
        · rw [List.length_map, List.length_replicate]
          exact small6 (by omega)
        · refine ⟨fun b o e => ?_, nD, ?_⟩
          · rw [upd_ne (ne_of_none e nD)]
            exact s4 _ _ (s3 _ _ e)
          · rw [upd_same, List.replicate_succ', List.map_append]
            rfl
      · rintro H2 ⟨sm, nD, hl⟩
        refine ⟨_, _, rfl, SqL.of hl, ?_⟩
        have ea : (List.replicate xs.length true).all id = true := by
          rw [List.all_eq_true]
          intro b hb
          rw [List.eq_of_mem_replicate hb]
          rfl
        rw [ea]
        exact k _ sm
theorem pr_same (D : Df K mg "_law_same" sSame ["_law_found", "_law_due"]) (T : Ty mg) : ∀ n, Pr P w K mg base n "_law_same" ["_law_found", "_law_due"] (spS n)
  | 0 => by
    obtain ⟨f, fd, F, b, g⟩ := D
    exact ⟨f, fd, ⟨fun _ _ _ _ h => h.elim, fun _ _ _ _ _ _ _ _ _ _ _ _ _ h => h.elim⟩, g, F.kp, b⟩
  | n + 1 => step_same D T (pr_same D T n)
end
end C83

set_option Elab.async false
set_option maxRecDepth 100000
set_option maxHeartbeats 4000000
set_option linter.all false
/-! max(xs, default=z) of a list of ints -/
namespace My
open PySem PySem.Spec PyProof.Rows L2
def topOf (z : Int) : List Int → Int
  | [] => z
  | n :: r => r.foldl max n
def rMaxD (K : PySem.W.Frag) : List V → List V → Hp → VK → Prop := fun xs zs H Q => ∃ (a : Addr) (ns : List Int) (z : Int), xs = [.ref a] ∧ zs = [.int z] ∧ SqL K H a (ns.map V.int) ∧ Q (.int (topOf z ns)) H
theorem ints_reads {h : Heap} : ∀ {ns : List Int} {us : List Value}, Vals (ns.map V.int) us → ReadsAll h us (ns.map PyData.int) []
  | [], _, .nil => .nil
  | n :: r, _, .cons e q => by
    obtain ⟨t, rfl⟩ := e
    exact .cons (.int n t) (ints_reads q)
theorem ints_alike (ns : List Int) : PySem.W.AlikeAll (ns.map PyData.int) := by
  refine ⟨fun x hx y hy => ?_, fun x hx => ?_⟩
  · obtain ⟨i, _, rfl⟩ := List.mem_map.mp hx
    obtain ⟨j, _, rfl⟩ := List.mem_map.mp hy
    simp [PySem.W.alike]
  · obtain ⟨i, _, rfl⟩ := List.mem_map.mp hx
    exact fun z => nomatch z
theorem ints_depth : ∀ ns : List Int, PyData.depthAll (ns.map PyData.int) ≤ 1
  | [] => Nat.zero_le _
  | n :: r => by
    have := ints_depth r
    simp [PyData.depthAll, PyData.depth]
    omega
theorem cr_maxD {X : Cx} (hc : X.calm = true) (hu : X.A.units + 64 < cLine) : CallRK X (.builtin "max") ["default"] (rMaxD X.K) := by
  intro pins s σ H xs zs us ws Q I rx rz h
  obtain ⟨a, ns, z, rfl, rfl, hq, q⟩ := h
  cases rz with
  | cons rz1 rr =>
    cases rr
    obtain ⟨tz, rfl⟩ := rz1
    rw [Vals.ref1 rx]
    obtain ⟨its, rv, hl, _⟩ := I.list hq
    have hd := ints_depth ns
    refine PySem.W.max_list_default (I.ok.hd hc) hl.isList (xs := ns.map PyData.int) (by simpa using ints_reads rv) (ints_alike ns) (by omega) (fun e h' tk hk => ?_) (fun y ys i v h' tk bs e hv rd hk => ?_)
    · cases ns with
      | nil => exact ⟨.int z, H, I.kept (t' := tk) hk, ⟨_, rfl⟩, q⟩
      | cons n r => cases e
    · cases ns with
      | nil => cases e
      | cons n r =>
        injection e with e1 e2
        subst e1 e2
        rw [PySem.W.maxD_ints] at rd
        cases rd
        exact ⟨.int _, H, I.kept (t' := tk) hk, ⟨_, rfl⟩, q⟩
end My

set_option Elab.async false
set_option maxRecDepth 100000
set_option linter.all false
/-! The mirror of the scripts' steps: words, rows, locks. -/
namespace M78
open PySem L2 My
inductive Wd where
  | beg | imm | exc | com | rol | rea | sta | sto | wri
  deriving DecidableEq
def wS : Wd → Str
  | .beg => "begin" | .imm => "immediate" | .exc => "exclusive" | .com => "commit" | .rol => "rollback" | .rea => "read" | .sta => "start" | .sto => "stop" | .wri => "write"
theorem eqW (w v : Wd) : decide (V.str (wS w) = V.str (wS v)) = decide (w = v) := by
  cases w <;> cases v <;> decide +kernel
structure Row where
  p : Int
  o : Bool
  r : Bool
  l : Int
  deriving DecidableEq
def rowV (x : Row) : List V := [.int x.p, .bl x.o, .bl x.r, .int x.l]
def rowD (x : Row) : PyData := .tuple [.int x.p, .bool x.o, .bool x.r, .int x.l]
def oV : Option Int → V
  | none => .non
  | some i => .int i
def isOp (w : Wd) : Bool := w == .beg || (w == .imm || w == .exc)
def isEn (w : Wd) : Bool := w == .com || w == .rol
def isRs (w : Wd) : Bool := w == .rea || w == .sta
def isRsw (w : Wd) : Bool := w == .rea || (w == .sta || w == .wri)
theorem in_op (w : Wd) : inV (.str (wS w)) [.str (Str.ofString "begin"), .str (Str.ofString "immediate"), .str (Str.ofString "exclusive")] = isOp w := by cases w <;> decide +kernel
theorem in_en (w : Wd) : inV (.str (wS w)) [.str (Str.ofString "commit"), .str (Str.ofString "rollback")] = isEn w := by cases w <;> decide +kernel
theorem in_rs (w : Wd) : inV (.str (wS w)) [.str (Str.ofString "read"), .str (Str.ofString "start")] = isRs w := by cases w <;> decide +kernel
theorem in_rsw (w : Wd) : inV (.str (wS w)) [.str (Str.ofString "read"), .str (Str.ofString "start"), .str (Str.ofString "write")] = isRsw w := by cases w <;> decide +kernel
def restL (b : Bool) : Int := if b then 1 else 0
def openL (w : Wd) (l t : Int) : Option Int := if w = .beg then some l else if w = .imm then (if 2 ≤ t then none else some 2) else (if 1 ≤ t then none else some 4)
def workL (w : Wd) (x : Row) (t : Int) : Option Int :=
  if isRs w = true then (if x.l = 0 ∧ 3 ≤ t then none else if x.o = true then some (max x.l 1) else some (restL (x.r || decide (w = .sta))))
  else (if x.l < 2 ∧ 2 ≤ t then none else if x.o = true then some (max x.l 2) else if 1 ≤ t then none else some (restL x.r))
/-- what is left behind a step whose lock is known -/
def endL (x : Row) (o r : Bool) : Option Int → Row × Bool
  | none => (x, true)
  | some l => (⟨x.p + 1, o, r, l⟩, false)
def triedM (w : Wd) (x : Row) (t : Int) : Row × Bool :=
  if isOp w = true then endL x true x.r (openL w x.l t)
  else if isRsw w = true then endL x x.o (x.r || decide (w = .sta)) (workL w x t)
  else if w = .sto then endL x x.o false (some (if x.o = true then x.l else 0))
  else if w = .com ∧ 2 ≤ x.l ∧ 1 ≤ t then (⟨x.p, x.o, x.r, max x.l 3⟩, true)
  else endL x false x.r (some (restL x.r))
theorem max2 (i j : Int) : (if j > i then j else i) = max i j := by
  by_cases h : j > i
  · rw [if_pos h]
    omega
  · rw [if_neg h]
    omega
/-- an if whose test has the answer b and leaves the heap -/
theorem if_tv {c : TT} {t u : TS} {D : Ends} {σ : L2.St} {H : Hp} (b : Bool) (h : ∀ K : Bool → Hp → Prop, K b H → c σ H K) (hT : b = true → t D σ H) (hF : b = false → u D σ H) : tIfS c t u D σ H := h _ (by
  cases b
  · exact iteF (hF rfl)
  · exact iteT (hT rfl))
theorem seq_if_tv {c : TT} {t u r : TS} {D : Ends} {σ : L2.St} {H : Hp} (b : Bool) (h : ∀ K : Bool → Hp → Prop, K b H → c σ H K) (hT : b = true → t { D with nx := r D } σ H) (hF : b = false → u { D with nx := r D } σ H) : tSeq (tIfS c t u) r D σ H := if_tv b h hT hF
theorem vint (i j : Int) : decide (V.int i = V.int j) = decide (i = j) := by
  by_cases h : i = j
  · rw [decide_eq_true h, h]
    exact decide_eq_true rfl
  · rw [decide_eq_false h]
    exact decide_eq_false fun z => h (V.int.inj z)
/-! states -/
def othL (xs : List Row) (j : Nat) : Nat → List Int
  | 0 => []
  | n + 1 => othL xs j n ++ (if n = j then [] else match xs[n]? with | some x => [x.l] | none => [])
theorem othL_len (xs : List Row) (j : Nat) : ∀ n, (othL xs j n).length ≤ n
  | 0 => Nat.le_refl _
  | n + 1 => by
    have := othL_len xs j n
    unfold othL
    rw [List.length_append]
    split
    · simp
      omega
    · split
      · simp
        omega
      · simp
        omega
def topM (xs : List Row) (j : Nat) : Int := topOf 0 (othL xs j xs.length)
def scD (ss : List (List Wd)) : PyData := .tuple (ss.map fun sc => .tuple (sc.map fun v => .str (wS v)))
def stD (xs : List Row) : PyData := .tuple (xs.map rowD)
section
variable {m : Addr} {H : Hp} {a : Addr}
theorem at_tup {v : V} {ds : List PyData} (h : At m H v (.tuple ds)) : ∃ a vs, v = .ref a ∧ a ≠ m ∧ H a = some (.tup vs) ∧ AtAll m H vs ds := by
  cases h with
  | tup n e q => exact ⟨_, _, rfl, n, e, q⟩
theorem all_ints4 {vs : List V} {p l : Int} {o r : Bool} (h : AtAll m H vs [.int p, .bool o, .bool r, .int l]) : vs = [.int p, .bl o, .bl r, .int l] := by
  cases h with
  | cons h1 q =>
    cases q with
    | cons h2 q =>
      cases q with
      | cons h3 q =>
        cases q with
        | cons h4 q =>
          cases q
          cases h1
          cases h2
          cases h3
          cases h4
          rfl
theorem row_of {v : V} {x : Row} (h : At m H v (rowD x)) : ∃ R, v = .ref R ∧ R ≠ m ∧ H R = some (.tup (rowV x)) := by
  obtain ⟨R, vs, rfl, n, e, q⟩ := at_tup h
  rw [all_ints4 q] at e
  exact ⟨R, rfl, n, e⟩
theorem row_at {R : Addr} {x : Row} (n : R ≠ m) (e : H R = some (.tup (rowV x))) : At m H (.ref R) (rowD x) := .tup n e (.cons (.int _) (.cons (.bl _) (.cons (.bl _) (.cons (.int _) .nil))))
theorem all_get : ∀ {vs : List V} {ds : List PyData} {i : Nat} {d : PyData}, AtAll m H vs ds → ds[i]? = some d → ∃ v, vs[i]? = some v ∧ At m H v d
  | _, _, _, _, .nil, e => by simp at e
  | _, _, 0, _, .cons h _, e => by
    simp at e
    subst e
    exact ⟨_, rfl, h⟩
  | _, _, i + 1, d, .cons _ q, e => by
    obtain ⟨v, h1, h2⟩ := all_get (i := i) (d := d) q (by simpa using e)
    exact ⟨v, by simpa using h1, h2⟩
theorem all_take : ∀ {vs : List V} {ds : List PyData} (n : Nat), AtAll m H vs ds → AtAll m H (vs.take n) (ds.take n)
  | _, _, 0, _ => .nil
  | _, _, _ + 1, .nil => .nil
  | _, _, n + 1, .cons h q => .cons h (all_take n q)
theorem all_drop : ∀ {vs : List V} {ds : List PyData} (n : Nat), AtAll m H vs ds → AtAll m H (vs.drop n) (ds.drop n)
  | _, _, 0, q => q
  | _, _, _ + 1, .nil => .nil
  | _, _, n + 1, .cons h q => all_drop n q
theorem all_app : ∀ {vs us : List V} {ds es : List PyData}, AtAll m H vs ds → AtAll m H us es → AtAll m H (vs ++ us) (ds ++ es)
  | _, _, _, _, .nil, q => q
  | _, _, _, _, .cons h t, q => .cons h (all_app t q)
/-- the sum of two tuples, whichever object it is -/
theorem cat_any {K : PySem.W.Frag} {b : Addr} {xs ys : List V} {o : HO} {Q : VK} (ha : H a = some (.tup xs)) (hb : H b = some (.tup ys)) (na : a ≠ m) (nb : b ≠ m) (hm : H m = some o) (hz : xs.length + ys.length ≤ sizeLine)
    (k : ∀ p H', p ≠ m → Same H H' → H' p = some (.tup (xs ++ ys)) → Q (.ref p) H') : rCatA K (.ref a) (.ref b) H Q := by
  refine ⟨a, b, xs, ys, rfl, rfl, SqT.of ha, SqT.of hb, hz, fun e => ?_, fun _ e => ?_, fun _ _ p hp => ?_⟩
  · subst e
    exact k b H nb (fun _ _ e => e) hb
  · subst e
    exact k a H na (fun _ _ e => e) (by rw [List.append_nil]; exact ha)
  · refine k p _ (fun z => by rw [z, hm] at hp; cases hp) (fun q u e => ?_) upd_same
    rw [upd_ne (ne_of_none e hp)]
    exact e
end
end M78

set_option Elab.async false
set_option maxRecDepth 100000
set_option maxHeartbeats 4000000
set_option linter.all false
namespace C83
open PySem L2 My M78
abbrev sRest : Stmt := top 17
abbrev sOpen : Stmt := top 18
abbrev sWork : Stmt := top 19
abbrev sTried : Stmt := top 20
theorem pe_gI {X : Cx} {x : Str} {z : Int} {t : Tok} {pos : Pos} (hg : Gl X x) (hm : X.mg x = some (.int z t)) (hd : (x == ("__debug__" : Str)) = false := by decide) : PE X (.Name x pos) (tC (.int z)) := pe_glob hg hm ⟨_, rfl⟩ hd
theorem pe_gR {X : Cx} {x : Str} {a : Addr} {pos : Pos} (hg : Gl X x) (hm : X.mg x = some (.ref a)) (hd : (x == ("__debug__" : Str)) = false := by decide) : PE X (.Name x pos) (tC (.ref a)) := pe_glob hg hm rfl hd
theorem same_new {H : Hp} {p : Addr} {o : HO} (h : H p = none) : Same H (upd H p o) := fun b u e => by
  rw [upd_ne (ne_of_none e h)]
  exact e
theorem Same.tr {H H1 H2 : Hp} (a : Same H H1) (b : Same H1 H2) : Same H H2 := fun x o e => b _ _ (a _ _ e)
/-- the module's constants -/
structure Tk (K : PySem.W.Frag) (mg : Str → Option Value) : Prop where
  l0 : ∃ t, mg "NO_LOCK" = some (.int 0 t)
  l1 : ∃ t, mg "SHARED" = some (.int 1 t)
  l2 : ∃ t, mg "RESERVED" = some (.int 2 t)
  l3 : ∃ t, mg "PENDING" = some (.int 3 t)
  l4 : ∃ t, mg "EXCLUSIVE" = some (.int 4 t)
  op : ∃ a, mg "OPENING" = some (.ref a) ∧ ∀ H, SqT K H a [.str (Str.ofString "begin"), .str (Str.ofString "immediate"), .str (Str.ofString "exclusive")]
  en : ∃ a, mg "ENDING" = some (.ref a) ∧ ∀ H, SqT K H a [.str (Str.ofString "commit"), .str (Str.ofString "rollback")]
  ot : ∃ a, mg "OTHERS" = some (.ref a) ∧ ∀ H, SqT K H a [.str (Str.ofString "read"), .str (Str.ofString "start"), .str (Str.ofString "stop"), .str (Str.ofString "write")]
  max : mg "max" = none
section
variable {P : Program} {w : World} {K : PySem.W.Frag} {mg : Str → Option Value} {base : Heap}
def spRest : Sp := fun vs H Q _ => ∃ b : Bool, vs = [.bl b] ∧ Q (.int (restL b)) H
theorem scRest : FnScope ["reads"] ["reads"] (defScope sRest) := ⟨rfl, rfl, rfl, by decide +kernel, rfl, by decide +kernel, by decide +kernel⟩
theorem pr_rest (D : Df K mg "resting" sRest ["reads"]) (G : Tk K mg) : Pr P w K mg base 1 "resting" ["reads"] spRest := by
  refine D.pr scRest (fun vs H Q E h => ?_) (fun f cdv A outer s H vs Q E hr h => ?_)
  · obtain ⟨b, rfl, _⟩ := h
    rfl
  · obtain ⟨b, rfl, q⟩ := h
    obtain ⟨_, g0⟩ := G.l0
    obtain ⟨_, g1⟩ := G.l1
    obtain ⟨_, g2⟩ := G.l2
    obtain ⟨_, g3⟩ := G.l3
    obtain ⟨_, g4⟩ := G.l4
    refine ⟨_, (pss_one (ps_ret (pe_ifExp (pt_val (pv 0)) (pe_gI rfl g1) (pe_gI rfl g0)))), ?_⟩
    refine ⟨_, rfl, _, rfl, ?_⟩
    cases b
    · exact iteF q
    · exact iteT q
def spOpen : Sp := fun vs H Q _ => ∃ (v : Wd) (l t : Int), vs = [.str (wS v), .int l, .int t] ∧ Q (oV (openL v l t)) H
theorem scOpen : FnScope ["step", "lock", "other"] ["step", "lock", "other"] (defScope sOpen) := ⟨rfl, rfl, rfl, by decide +kernel, rfl, by decide +kernel, by decide +kernel⟩
theorem pr_open (D : Df K mg "opened_lock" sOpen ["step", "lock", "other"]) (G : Tk K mg) : Pr P w K mg base 1 "opened_lock" ["step", "lock", "other"] spOpen := by
  refine D.pr scOpen (fun vs H Q E h => ?_) (fun f cdv A outer s H vs Q E hr h => ?_)
  · obtain ⟨v, l, t, rfl, _⟩ := h
    rfl
  · obtain ⟨v, l, t, rfl, q⟩ := h
    unfold openL at q
    obtain ⟨_, g0⟩ := G.l0
    obtain ⟨_, g1⟩ := G.l1
    obtain ⟨_, g2⟩ := G.l2
    obtain ⟨_, g3⟩ := G.l3
    obtain ⟨_, g4⟩ := G.l4
    refine ⟨_, (pss_cons (ps_if (pt_cmpR op_eq (pv 0) pe_str (nomark _))
        (pss_one (ps_ret (pv 1)))
        pss_nil)
      (pss_cons (ps_if (pt_cmpR op_eq (pv 0) pe_str (nomark _))
        (pss_one (ps_ret (pe_ifExp (pt_cmpR op_ge (pv 2) (pe_gI rfl g2) (nomark _)) pe_non (pe_gI rfl g2))))
        pss_nil)
      (pss_one (ps_ret (pe_ifExp (pt_cmpR op_ge (pv 2) (pe_gI rfl g1) (nomark _)) pe_non (pe_gI rfl g4)))))), ?_⟩
    refine ⟨_, rfl, rfl, _, rfl, ?_⟩
    refine ite2 (fun h1 => ?_) (fun h1 => ?_)
    · have e1 : v = .beg := of_decide_eq_true ((eqW v .beg).symm.trans h1)
      rw [if_pos e1] at q
      exact ⟨_, rfl, q⟩
    · have e1 : v ≠ .beg := fun z => h1 ((eqW v .beg).trans (decide_eq_true z))
      rw [if_neg e1] at q
      refine ⟨_, rfl, rfl, _, rfl, ?_⟩
      refine ite2 (fun h2 => ?_) (fun h2 => ?_)
      · have e2 : v = .imm := of_decide_eq_true ((eqW v .imm).symm.trans h2)
        rw [if_pos e2] at q
        refine ⟨_, rfl, _, _, rfl, rfl, _, rfl, ?_⟩
        refine ite2 (fun h3 => ?_) (fun h3 => ?_)
        · rw [if_pos (of_decide_eq_true h3)] at q
          exact q
        · rw [if_neg (fun z => h3 (decide_eq_true z))] at q
          exact q
      · have e2 : v ≠ .imm := fun z => h2 ((eqW v .imm).trans (decide_eq_true z))
        rw [if_neg e2] at q
        refine ⟨_, rfl, _, _, rfl, rfl, _, rfl, ?_⟩
        refine ite2 (fun h3 => ?_) (fun h3 => ?_)
        · rw [if_pos (of_decide_eq_true h3)] at q
          exact q
        · rw [if_neg (fun z => h3 (decide_eq_true z))] at q
          exact q
def spWork : Sp := fun vs H Q _ => ∃ (v : Wd) (a : Addr) (x : Row) (t : Int), vs = [.str (wS v), .ref a, .int t] ∧ H a = some (.tup (rowV x)) ∧ ∀ H', Same H H' → Q (oV (workL v x t)) H'
theorem scWork : FnScope ["step", "row", "other", "place", "opened", "reads", "lock"] ["step", "row", "other"] (defScope sWork) := ⟨rfl, rfl, rfl, by decide +kernel, rfl, by decide +kernel, by decide +kernel⟩
theorem pr_work (D : Df K mg "working_lock" sWork ["step", "row", "other"]) (G : Tk K mg) (PR : Pr P w K mg base 1 "resting" ["reads"] spRest) : Pr P w K mg base 2 "working_lock" ["step", "row", "other"] spWork := by
  refine D.pr scWork (fun vs H Q E h => ?_) (fun f cdv A outer s H vs Q E hr h => ?_)
  · obtain ⟨v, a, x, t, rfl, _⟩ := h
    rfl
  · obtain ⟨v, a, x, t, rfl, ha, k⟩ := h
    have nd := scWork.nd
    have hmax := G.max
    unfold workL at k
    obtain ⟨_, g0⟩ := G.l0
    obtain ⟨_, g1⟩ := G.l1
    obtain ⟨_, g2⟩ := G.l2
    obtain ⟨_, g3⟩ := G.l3
    obtain ⟨_, g4⟩ := G.l4
    refine ⟨_, (pss_cons (ps_asg (pv 1) (pg_tup rfl (pgs_cons (pg_name (i := 3) nd rfl (Or.inl rfl)) (pgs_cons (pg_name (i := 4) nd rfl (Or.inl rfl)) (pgs_cons (pg_name (i := 5) nd rfl (Or.inl rfl)) (pgs_cons (pg_name (i := 6) nd rfl (Or.inl rfl)) pgs_nil))))))
      (pss_cons (ps_if (pt_cmpR op_in_seq (pv 0) (pe_tup (pa_cons pe_str (pa_cons pe_str pa_nil))) (by rfl))
        (pss_cons (ps_if (PW.pt (pw_and (pt_cmpR op_eq (pv 6) (pe_gI rfl g0) (nomark _)) (pw_and1 (pt_cmpR op_ge (pv 2) (pe_gI rfl g3) (nomark _)))))
          (pss_one (ps_ret pe_non))
          pss_nil)
        (pss_cons (ps_if (pt_val (pv 4))
          (pss_one (ps_ret (pe_callB (call_max2 rfl) (by rfl) hmax (by decide +kernel) (pa_cons (pv 6) (pa_cons (pe_gI rfl g1) pa_nil)))))
          pss_nil)
        (pss_one (ps_ret (pe_callP PR hr (by rfl) (pa_cons (pe_or (pv 5) (pe_one (pe_cmpR op_eq (pv 0) pe_str (nomark _)))) pa_nil))))))
        pss_nil)
      (pss_cons (ps_if (PW.pt (pw_and (pt_cmpR op_lt (pv 6) (pe_gI rfl g2) (nomark _)) (pw_and1 (pt_cmpR op_ge (pv 2) (pe_gI rfl g2) (nomark _)))))
        (pss_one (ps_ret pe_non))
        pss_nil)
      (pss_cons (ps_if (pt_val (pv 4))
        (pss_one (ps_ret (pe_callB (call_max2 rfl) (by rfl) hmax (by decide +kernel) (pa_cons (pv 6) (pa_cons (pe_gI rfl g2) pa_nil)))))
        pss_nil)
      (pss_one (ps_ret (pe_ifExp (pt_cmpR op_ge (pv 2) (pe_gI rfl g1) (nomark _)) pe_non (pe_callP PR hr (by rfl) (pa_cons (pv 5) pa_nil))))))))), ?_⟩
    refine ⟨_, rfl, _, _, rfl, SqT.of ha, rfl, _, _, rfl, _, _, rfl, _, _, rfl, _, _, rfl, rfl, ?_⟩
    refine ⟨_, rfl, (by show 2 ≤ sizeLine; decide), fun tp htp => ?_⟩
    have q := k _ (same_new (o := .tup [.str (Str.ofString "read"), .str (Str.ofString "start")]) htp)
    refine ⟨_, _, rfl, .inr (SqT.of upd_same), rfl, rfl, _, rfl, ?_⟩
    refine ite2 (fun h1 => ?_) (fun h1 => ?_)
    · have e1 : isRs v = true := (in_rs v).symm.trans h1
      rw [if_pos e1] at q
      refine seq_if_tv (decide (x.l = 0 ∧ 3 ≤ t)) (fun K' kk => ?_) (fun hb => ?_) (fun hb => ?_)
      · refine ⟨_, rfl, rfl, _, rfl, ?_⟩
        refine ite2 (fun h2 => ?_) (fun h2 => ?_)
        · have e2 : x.l = 0 := V.int.inj (of_decide_eq_true h2)
          refine ⟨_, rfl, _, _, rfl, rfl, _, rfl, ?_⟩
          simpa [e2] using kk
        · have e2 : x.l ≠ 0 := fun z => h2 (decide_eq_true (congrArg V.int z))
          simpa [e2] using kk
      · rw [if_pos (of_decide_eq_true hb)] at q
        exact q
      · rw [if_neg (of_decide_eq_false hb)] at q
        refine ⟨_, rfl, _, rfl, ?_⟩
        refine ite2 (fun ho => ?_) (fun ho => ?_)
        · rw [if_pos ho] at q
          refine ⟨_, rfl, _, _, rfl, ?_⟩
          rw [max2]
          exact q
        · rw [if_neg ho] at q
          refine ⟨_, rfl, _, rfl, ?_⟩
          cases hx : x.r
          · refine iteF ⟨_, rfl, rfl, _, rfl, ?_⟩
            rw [hx] at q
            have e3 := eqW v .sta
            rw [Bool.false_or, ← e3] at q
            exact q
          · refine iteT ⟨_, rfl, ?_⟩
            rw [hx] at q
            exact q
    · have e1 : ¬ isRs v = true := fun z => h1 ((in_rs v).trans z)
      rw [if_neg e1] at q
      dsimp only [tNext]
      refine seq_if_tv (decide (x.l < 2 ∧ 2 ≤ t)) (fun K' kk => ?_) (fun hb => ?_) (fun hb => ?_)
      · refine ⟨_, rfl, _, _, rfl, rfl, _, rfl, ?_⟩
        refine ite2 (fun h2 => ?_) (fun h2 => ?_)
        · have e2 : x.l < 2 := of_decide_eq_true h2
          refine ⟨_, rfl, _, _, rfl, rfl, _, rfl, ?_⟩
          simpa [e2] using kk
        · have e2 : ¬ x.l < 2 := fun z => h2 (decide_eq_true z)
          simpa [e2] using kk
      · rw [if_pos (of_decide_eq_true hb)] at q
        exact q
      · rw [if_neg (of_decide_eq_false hb)] at q
        refine ⟨_, rfl, _, rfl, ?_⟩
        refine ite2 (fun ho => ?_) (fun ho => ?_)
        · rw [if_pos ho] at q
          refine ⟨_, rfl, _, _, rfl, ?_⟩
          rw [max2]
          exact q
        · rw [if_neg ho] at q
          refine ⟨_, rfl, _, _, rfl, rfl, _, rfl, ?_⟩
          refine ite2 (fun h3 => ?_) (fun h3 => ?_)
          · rw [if_pos (of_decide_eq_true h3)] at q
            exact q
          · rw [if_neg (fun z => h3 (decide_eq_true z))] at q
            exact ⟨_, rfl, _, rfl, q⟩
end
end C83

set_option Elab.async false
set_option maxRecDepth 100000
set_option maxHeartbeats 4000000
set_option linter.all false
namespace C83
open PySem L2 My M78
section
variable {P : Program} {w : World} {K : PySem.W.Frag} {mg : Str → Option Value} {base : Heap}
def spTried : Sp := fun vs H Q _ => ∃ (v : Wd) (a : Addr) (x : Row) (t : Int), vs = [.str (wS v), .ref a, .int t] ∧ H a = some (.tup (rowV x)) ∧
  ∀ (p q : Addr) (H' : Hp), H p = none → Same H H' → H' p = some (.tup [.ref q, .bl (triedM v x t).2]) → H' q = some (.tup (rowV (triedM v x t).1)) → (q = a ∨ H q = none) → Q (.ref p) H'
theorem scTried : FnScope ["step", "row", "other", "place", "opened", "reads", "lock", "after"] ["step", "row", "other"] (defScope sTried) := ⟨rfl, rfl, rfl, by decide +kernel, rfl, by decide +kernel, by decide +kernel⟩
theorem pr_tried (D : Df K mg "tried" sTried ["step", "row", "other"]) (G : Tk K mg) (PR : Pr P w K mg base 1 "resting" ["reads"] spRest) (PO : Pr P w K mg base 1 "opened_lock" ["step", "lock", "other"] spOpen) (PWk : Pr P w K mg base 2 "working_lock" ["step", "row", "other"] spWork) :
    Pr P w K mg base 3 "tried" ["step", "row", "other"] spTried := by
  refine D.pr scTried (fun vs H Q E h => ?_) (fun f cdv A outer s H vs Q E hr h => ?_)
  · obtain ⟨v, a, x, t, rfl, _⟩ := h
    rfl
  · obtain ⟨v, a, x, t, rfl, ha, k⟩ := h
    have nd := scTried.nd
    have hmax := G.max
    have hr1 := hr.mono (show 1 ≤ 2 by decide)
    obtain ⟨aO, gOp, sqO⟩ := G.op
    obtain ⟨_, g0⟩ := G.l0
    obtain ⟨_, g1⟩ := G.l1
    obtain ⟨_, g2⟩ := G.l2
    obtain ⟨_, g3⟩ := G.l3
    obtain ⟨_, g4⟩ := G.l4
    refine ⟨_, (pss_cons (ps_asg (pv 1) (pg_tup rfl (pgs_cons (pg_name (i := 3) nd rfl (Or.inl rfl)) (pgs_cons (pg_name (i := 4) nd rfl (Or.inl rfl)) (pgs_cons (pg_name (i := 5) nd rfl (Or.inl rfl)) (pgs_cons (pg_name (i := 6) nd rfl (Or.inl rfl)) pgs_nil))))))
      (pss_cons (ps_asg (pv 6) (pg_name (i := 7) nd rfl (Or.inl rfl)))
      (Evl.pss_cut (ps_if (pt_cmpR op_in_seq (pv 0) (pe_gR rfl gOp) (by rfl))
        (pss_cons (ps_asg (pe_callP PO hr1 (by rfl) (pa_cons (pv 0) (pa_cons (pv 6) (pa_cons (pv 2) pa_nil)))) (pg_name (i := 7) nd rfl (Or.inl rfl)))
        (pss_one (ps_asg pe_bl (pg_name (i := 4) nd rfl (Or.inl rfl)))))
        (pss_one (ps_if (pt_cmpR op_in_seq (pv 0) (pe_tup (pa_cons pe_str (pa_cons pe_str (pa_cons pe_str pa_nil)))) (by rfl))
          (pss_cons (ps_asg (pe_callP PWk hr (by rfl) (pa_cons (pv 0) (pa_cons (pv 1) (pa_cons (pv 2) pa_nil)))) (pg_name (i := 7) nd rfl (Or.inl rfl)))
          (pss_one (ps_asg (pe_or (pv 5) (pe_one (pe_cmpR op_eq (pv 0) pe_str (nomark _)))) (pg_name (i := 5) nd rfl (Or.inl rfl)))))
          (pss_one (ps_if (pt_cmpR op_eq (pv 0) pe_str (nomark _))
            (pss_cons (ps_asg pe_bl (pg_name (i := 5) nd rfl (Or.inl rfl)))
            (pss_one (ps_asg (pe_ifExp (pt_val (pv 4)) (pv 6) (pe_gI rfl g0)) (pg_name (i := 7) nd rfl (Or.inl rfl)))))
            (pss_one (ps_if (PW.pt (pw_and (pt_cmpR op_eq (pv 0) pe_str (nomark _)) (pw_and (pt_cmpR op_ge (pv 6) (pe_gI rfl g2) (nomark _)) (pw_and1 (pt_cmpR op_ge (pv 2) (pe_gI rfl g1) (nomark _))))))
              (pss_one (ps_ret (pe_tup (pa_cons (pe_tup (pa_cons (pv 3) (pa_cons (pv 4) (pa_cons (pv 5) (pa_cons (pe_callB (call_max2 rfl) (by rfl) hmax (by decide +kernel) (pa_cons (pv 6) (pa_cons (pe_gI rfl g3) pa_nil))) pa_nil))))) (pa_cons pe_bl pa_nil)))))
              (pss_cons (ps_asg pe_bl (pg_name (i := 4) nd rfl (Or.inl rfl)))
              (pss_one (ps_asg (pe_callP PR hr1 (by rfl) (pa_cons (pv 5) pa_nil)) (pg_name (i := 7) nd rfl (Or.inl rfl))))))))))))
      (pss_cons (ps_if (pt_cmpR op_isN (pv 7) pe_non (nomark _))
        (pss_one (ps_ret (pe_tup (pa_cons (pv 1) (pa_cons pe_bl pa_nil)))))
        pss_nil)
      (pss_one (ps_ret (pe_tup (pa_cons (pe_tup (pa_cons (pe_op op_add (pv 3) pe_int) (pa_cons (pv 4) (pa_cons (pv 5) (pa_cons (pv 7) pa_nil))))) (pa_cons pe_bl pa_nil))))))))), ?_⟩
    refine ⟨_, rfl, _, _, rfl, SqT.of ha, rfl, _, _, rfl, _, _, rfl, _, _, rfl, _, _, rfl, rfl, ?_⟩
    refine ⟨_, rfl, ?_⟩
    refine ⟨fun σ' H1 => Same H H1 ∧ ∃ (o r : Bool) (ol : Option Int), triedM v x t = endL x o r ol ∧ σ' = [some (.str (wS v)), some (.ref a), some (.int t), some (.int x.p), some (.bl o), some (.bl r), some (.int x.l), some (oV ol)], ?_, ?_⟩
    · refine ⟨_, rfl, _, _, rfl, .inr (sqO _), rfl, rfl, _, rfl, ?_⟩
      refine ite2 (fun h1 => ?_) (fun h1 => ?_)
      · have e1 : isOp v = true := (in_op v).symm.trans h1
        refine ⟨_, rfl, _, rfl, _, rfl, v, x.l, t, rfl, ?_⟩
        exact ⟨fun _ _ e => e, true, x.r, _, by unfold triedM; rw [if_pos e1], rfl⟩
      · have e1 : ¬ isOp v = true := fun z => h1 ((in_op v).trans z)
        refine ⟨_, rfl, (by show 3 ≤ sizeLine; decide), fun tp htp => ?_⟩
        have s1 := same_new (o := .tup [.str (Str.ofString "read"), .str (Str.ofString "start"), .str (Str.ofString "write")]) htp
        refine ⟨_, _, rfl, .inr (SqT.of upd_same), rfl, rfl, _, rfl, ?_⟩
        refine ite2 (fun h2 => ?_) (fun h2 => ?_)
        · have e2 : isRsw v = true := (in_rsw v).symm.trans h2
          refine ⟨_, rfl, _, rfl, _, rfl, v, a, x, t, rfl, s1 _ _ ha, fun H2 s2 => ?_⟩
          refine ⟨_, rfl, _, rfl, ?_⟩
          have e3 : triedM v x t = endL x x.o (x.r || decide (v = .sta)) (workL v x t) := by
            unfold triedM
            rw [if_neg e1, if_pos e2]
          cases hx : x.r
          · refine iteF ⟨_, rfl, rfl, ?_⟩
            rw [hx, Bool.false_or, ← eqW v .sta] at e3
            exact ⟨Same.tr s1 s2, x.o, _, _, e3, rfl⟩
          · rw [hx, Bool.true_or] at e3
            exact iteT ⟨Same.tr s1 s2, x.o, true, _, e3, rfl⟩
        · have e2 : ¬ isRsw v = true := fun z => h2 ((in_rsw v).trans z)
          refine ⟨_, rfl, rfl, _, rfl, ?_⟩
          refine ite2 (fun h3 => ?_) (fun h3 => ?_)
          · have e3 : v = .sto := of_decide_eq_true ((eqW v .sto).symm.trans h3)
            have e4 : triedM v x t = endL x x.o false (some (if x.o = true then x.l else 0)) := by
              unfold triedM
              rw [if_neg e1, if_neg e2, if_pos e3]
            refine ⟨_, rfl, _, rfl, ?_⟩
            refine ite2 (fun ho => ?_) (fun ho => ?_)
            · rw [if_pos ho] at e4
              exact ⟨_, rfl, s1, x.o, false, _, e4, rfl⟩
            · rw [if_neg ho] at e4
              exact ⟨s1, x.o, false, _, e4, rfl⟩
          · have e3 : v ≠ .sto := fun z => h3 ((eqW v .sto).trans (decide_eq_true z))
            refine if_tv (decide (v = .com ∧ 2 ≤ x.l ∧ 1 ≤ t)) (fun K' kk => ?_) (fun hb => ?_) (fun hb => ?_)
            · refine ⟨_, rfl, rfl, _, rfl, ?_⟩
              refine ite2 (fun h4 => ?_) (fun h4 => ?_)
              · have e4 : v = .com := of_decide_eq_true ((eqW v .com).symm.trans h4)
                refine ⟨_, rfl, _, _, rfl, rfl, _, rfl, ?_⟩
                refine ite2 (fun h5 => ?_) (fun h5 => ?_)
                · have e5 : 2 ≤ x.l := of_decide_eq_true h5
                  refine ⟨_, rfl, _, _, rfl, rfl, _, rfl, ?_⟩
                  simpa [e4, e5] using kk
                · have e5 : ¬ 2 ≤ x.l := fun z => h5 (decide_eq_true z)
                  simpa [e4, e5] using kk
              · have e4 : v ≠ .com := fun z => h4 ((eqW v .com).trans (decide_eq_true z))
                simpa [e4] using kk
            · have e4 : triedM v x t = (⟨x.p, x.o, x.r, max x.l 3⟩, true) := by
                unfold triedM
                rw [if_neg e1, if_neg e2, if_neg e3, if_pos (of_decide_eq_true hb)]
              rw [e4] at k
              refine ⟨_, rfl, _, rfl, _, rfl, _, rfl, _, _, rfl, (by show 4 ≤ sizeLine; decide), fun q hq => ⟨(by show 2 ≤ sizeLine; decide), fun p hp => ?_⟩⟩
              rw [max2] at hp ⊢
              have sq := same_new (o := .tup [.int x.p, .bl x.o, .bl x.r, .int (max x.l 3)]) hq
              have npq : q ≠ p := fun z => by
                rw [← z, upd_same] at hp
                cases hp
              refine k p q _ (Same.free (Same.tr s1 sq) hp) (Same.tr (Same.tr s1 sq) (same_new hp)) upd_same (Eq.trans (upd_ne npq) upd_same) (.inr (Same.free s1 hq))
            · have e4 : triedM v x t = endL x false x.r (some (restL x.r)) := by
                unfold triedM
                rw [if_neg e1, if_neg e2, if_neg e3, if_neg (of_decide_eq_false hb)]
              exact ⟨_, rfl, _, rfl, s1, false, x.r, _, e4, rfl⟩
    · rintro σ' H1 ⟨s1, o, r, ol, e, rfl⟩
      rw [e] at k
      refine ⟨_, rfl, rfl, _, rfl, ?_⟩
      cases ol with
      | none =>
        refine iteT ⟨_, rfl, (by show 2 ≤ sizeLine; decide), fun p hp => ?_⟩
        have npa : a ≠ p := ne_of_none (s1 _ _ ha) hp
        exact k p a _ (Same.free s1 hp) (Same.tr s1 (same_new hp)) upd_same (Eq.trans (upd_ne npa) (s1 _ _ ha)) (.inl rfl)
      | some l =>
        refine iteF ⟨_, rfl, _, _, rfl, rfl, _, rfl, _, rfl, _, rfl, (by show 4 ≤ sizeLine; decide), fun q hq => ⟨(by show 2 ≤ sizeLine; decide), fun p hp => ?_⟩⟩
        have sq := same_new (o := .tup (rowV ⟨x.p + 1, o, r, l⟩)) hq
        have npq : q ≠ p := fun z => by
          rw [← z, upd_same] at hp
          cases hp
        exact k p q _ (Same.free (Same.tr s1 sq) hp) (Same.tr (Same.tr s1 sq) (same_new hp)) upd_same (Eq.trans (upd_ne npq) upd_same) (.inr (Same.free s1 hq))
end
end C83

set_option Elab.async false
set_option maxRecDepth 100000
set_option maxHeartbeats 4000000
set_option linter.all false
namespace C83
open PySem L2 My M78
abbrev sMoved : Stmt := top 21
section
variable {P : Program} {w : World} {K : PySem.W.Frag} {mg : Str → Option Value} {base : Heap}
abbrev nMoved : List Str := ["scripts", "state", "at", "row", "other", "refused", "k"]
theorem scMoved : FnScope nMoved ["scripts", "state", "at"] (defScope sMoved) := ⟨rfl, rfl, rfl, by decide +kernel, rfl, by decide +kernel, by decide +kernel⟩
theorem othL_succ (xs : List Row) (j n : Nat) : othL xs j (n + 1) = othL xs j n ++ (if n = j then [] else match xs[n]? with | some x => [x.l] | none => []) := rfl
/-- one step of script number j -/
def spMoved : Sp := fun vs H Q _ => ∃ (m A B : Addr) (o : HO) (ss : List (List Wd)) (xs : List Row) (j p : Nat) (sc : List Wd) (x : Row) (v : Wd), H m = some o ∧ vs = [.ref A, .ref B, .int j] ∧ At m H (.ref A) (scD ss) ∧ At m H (.ref B) (stD xs) ∧
  xs.length ≤ 1000 ∧ ss[j]? = some sc ∧ xs[j]? = some x ∧ x.p = (p : Int) ∧ sc[p]? = some v ∧
  ∀ (q : Addr) (H' : Hp), H q = none → Same H H' → At m H' (.ref q) (.tuple [stD (xs.set j (triedM v x (topM xs j)).1), .bool (triedM v x (topM xs j)).2]) → Q (.ref q) H'
theorem pr_moved (D : Df K mg "moved" sMoved ["scripts", "state", "at"]) (T : Tx mg) (G : Tk K mg) (PTr : Pr P w K mg base 3 "tried" ["step", "row", "other"] spTried) : Pr P w K mg base 4 "moved" ["scripts", "state", "at"] spMoved := by
  refine D.pr scMoved (fun vs H Q E h => ?_) (fun f cdv A outer s H vs Q E hr h => ?_)
  · obtain ⟨m, A, B, o, ss, xs, j, p, sc, x, v, hm, rfl, _⟩ := h
    rfl
  · obtain ⟨m, A, B, o, ss, xs, j, p, sc, x, v, hm, rfl, hA, hB, hlen, hsc, hx, hp, hv, k⟩ := h
    have nd := scMoved.nd
    obtain ⟨_, g0⟩ := G.l0
    obtain ⟨_, g1⟩ := G.l1
    obtain ⟨_, g2⟩ := G.l2
    obtain ⟨_, g3⟩ := G.l3
    obtain ⟨_, g4⟩ := G.l4
    refine ⟨_, (pss_cons (ps_asg (pe_callBK (cr_maxD rfl hr.units) (by rfl) G.max (by decide +kernel) (pa_cons (pe_lc (own := [("k", 6), ("row", 3)]) (g := gTup K 2 (gCons (gName 6) (gCons (gName 3) gNil))) (te := tOp (rIxT K) (tVar 3) (tC (.int 3))) (by rfl) nd (pi_enumT (by rfl) T.enumerate (pa_cons (pv 1) pa_nil))
  (blkOk_by (own := [("k", 6), ("row", 3)]) (N := nMoved) (sc := defScope sMoved) (by decide +kernel))
  (fun _ _ _ _ _ => pg_tup rfl (pgs_cons (pg_name (i := 6) nd rfl (Or.inl rfl) (Or.inr rfl)) (pgs_cons (pg_name (i := 3) nd rfl (Or.inl rfl) (Or.inr rfl)) pgs_nil))) (fun _ _ _ _ _ => pts_one (pt_cmpR op_ne (pv 6) (pv 2) (nomark _)))
  (fun _ _ _ _ _ => (pe_ix ix_tup (pv 3) pe_int (fun _ _ => rfl)))) pa_nil) (pk_cons (pe_gI rfl g0) pk_nil)) (pg_name (i := 4) nd rfl (Or.inl rfl)))
      (pss_cons (ps_asg (pe_callP PTr hr (by rfl) (pa_cons (pe_ix ix_tup (pe_ix ix_tup (pv 0) (pv 2) (fun _ _ => rfl)) (pe_ix ix_tup (pe_ix ix_tup (pv 1) (pv 2) (fun _ _ => rfl)) pe_int (fun _ _ => rfl)) (fun _ _ => rfl)) (pa_cons (pe_ix ix_tup (pv 1) (pv 2) (fun _ _ => rfl)) (pa_cons (pv 4) pa_nil)))) (pg_tup rfl (pgs_cons (pg_name (i := 3) nd rfl (Or.inl rfl)) (pgs_cons (pg_name (i := 5) nd rfl (Or.inl rfl)) pgs_nil))))
      (pss_one (ps_ret (pe_tup (pa_cons (pe_op op_catA (pe_op op_catA (pe_slice sl_tupA (pv 1) po_none (po_some (pv 2))) (pe_tup (pa_cons (pv 3) pa_nil))) (pe_slice sl_tupA (pv 1) (po_some (pe_op op_add (pv 2) pe_int)) po_none)) (pa_cons (pv 5) pa_nil))))))), ?_⟩
    obtain ⟨_, ua, ea, nA, hA1, aA⟩ := at_tup hA
    cases ea
    obtain ⟨_, ub, eb, nB, hB1, aB⟩ := at_tup hB
    cases eb
    have lub : ub.length = xs.length := by
      rw [aB.length, List.length_map]
    have hj : j < xs.length := (List.getElem?_eq_some_iff.mp hx).1
    -- other = max(..)
    refine ⟨_, rfl, _, _, rfl, SqT.of hB1, fun Dl hD => ?_⟩
    refine lc_it (walk_enumT (xs := ub)) (fun i H2 => Same H H2 ∧ H2 Dl = some (.lst ((othL xs j i).map V.int))) ?_ ?_ ?_ ?_
    · exact ⟨same_new hD, upd_same⟩
    · exact fun i H2 _ q => SqT.of (q.1 _ _ hB1)
    · rintro i y H2 H3 hi ⟨sm, hl⟩ ⟨T2, i', vr, rfl, hT2, rfl, ei, er⟩
      obtain rfl : V.int (i : Nat) = i' := Option.some.inj ei
      have hix : i < xs.length := by omega
      obtain ⟨dr, e1, ar⟩ := aB.get er
      rw [List.getElem?_map, List.getElem?_eq_getElem hix] at e1
      cases e1
      obtain ⟨R, rfl, nR, hR⟩ := row_of ar
      have sT : Same H (upd H2 T2 (.tup [.int (i : Nat), .ref R])) := Same.tr sm (same_new hT2)
      have nDT : Dl ≠ T2 := ne_of_none hl hT2
      have hl3 : (upd H2 T2 (.tup [.int (i : Nat), .ref R])) Dl = some (.lst ((othL xs j i).map V.int)) := by
        rw [upd_ne nDT]
        exact hl
      refine ⟨_, _, rfl, SqT.of upd_same, rfl, _, _, rfl, _, _, rfl, rfl, rfl, ?_⟩
      refine ⟨_, rfl, _, rfl, rfl, _, rfl, ?_⟩
      by_cases hij : i = j
      · rw [decide_eq_true (show V.int ((i : Nat) : Int) = V.int ((j : Nat) : Int) by rw [hij])]
        refine iteF ⟨sT, ?_⟩
        rw [hl3, othL_succ, if_pos hij, List.append_nil]
      · rw [decide_eq_false (show ¬ V.int ((i : Nat) : Int) = V.int ((j : Nat) : Int) from fun z => hij (by have := V.int.inj z; omega))]
        refine iteT ⟨_, rfl, R, _, _, _, rfl, rfl, SqT.of (sT _ _ hR), rfl, _, hl3, ?_, ?_, ?_⟩
        · rw [List.length_map]
          have := othL_len xs j i
          exact small6 (by omega)
        · intro b u e
          rw [upd_ne (ne_of_none e hD)]
          exact sT _ _ e
        · rw [upd_same, othL_succ, if_neg hij, List.getElem?_eq_getElem hix, List.map_append]
          rfl
    · rintro H2 ⟨s2, hl⟩
      refine ⟨_, _, _, rfl, rfl, SqL.of hl, ?_⟩
      rw [lub]
      -- row, refused = tried(..)
      obtain ⟨vsc, es1, asc⟩ := all_get (i := j) (d := .tuple (sc.map fun v => .str (wS v))) aA (by rw [List.getElem?_map, hsc]; rfl)
      obtain ⟨aS, us, rfl, nS, hS, aS2⟩ := at_tup asc
      obtain ⟨vv, ev1, av⟩ := all_get (i := p) (d := .str (wS v)) aS2 (by rw [List.getElem?_map, hv]; rfl)
      cases av
      obtain ⟨vR, er1, aR⟩ := all_get (i := j) (d := rowD x) aB (by rw [List.getElem?_map, hx]; rfl)
      obtain ⟨R, rfl, nR, hR⟩ := row_of aR
      have hp2 : rowV x = [.int (p : Int), .bl x.o, .bl x.r, .int x.l] := by
        unfold rowV
        rw [hp]
      have hR2 : H2 R = some (.tup [.int (p : Int), .bl x.o, .bl x.r, .int x.l]) := by
        rw [← hp2]
        exact s2 _ _ hR
      refine ⟨_, rfl, _, rfl, _, _, _, _, rfl, rfl, SqT.of (s2 _ _ hA1), atI_nat es1, ?_⟩
      refine ⟨_, rfl, _, rfl, _, _, _, _, rfl, rfl, SqT.of (s2 _ _ hB1), atI_nat er1, ?_⟩
      refine ⟨_, _, _, _, rfl, rfl, SqT.of hR2, rfl, ?_⟩
      refine ⟨_, _, _, _, rfl, rfl, SqT.of (s2 _ _ hS), atI_nat ev1, ?_⟩
      refine ⟨_, rfl, _, rfl, _, _, _, _, rfl, rfl, SqT.of (s2 _ _ hB1), atI_nat er1, ?_⟩
      refine ⟨_, rfl, v, R, x, _, rfl, s2 _ _ hR, fun pt q H3 npt s3 hpt hq hqo => ?_⟩
      refine ⟨_, _, rfl, SqT.of hpt, rfl, _, _, rfl, _, _, rfl, rfl, ?_⟩
      have sm3 : Same H H3 := Same.tr s2 s3
      have nq : q ≠ m := by
        rcases hqo with rfl | h
        · exact nR
        · exact fun z => by
            rw [z, s2 _ _ hm] at h
            cases h
      -- state[:at]
      have hB3 := sm3 _ _ hB1
      have w1 : ¬ (HT.sIx ub.length 0 none = 0 ∧ HT.sIx ub.length ub.length (some (j : Int)) = ub.length) := fun z => by
        have := z.2
        rw [HT.sIx_nat] at this
        omega
      refine ⟨_, rfl, _, rfl, _, rfl, _, _, rfl, SqT.of hB3, fun z => absurd z w1, fun _ p1 hp1 => ?_⟩
      have c1 : cutV ub none (some (j : Int)) = ub.take j := by
        show (ub.drop 0).take (HT.sIx ub.length ub.length (some (j : Int)) - 0) = _
        rw [HT.sIx_nat, List.drop_zero, Nat.sub_zero, Nat.min_eq_left (by omega)]
      rw [c1]
      have s4 := Same.tr sm3 (same_new (o := .tup (ub.take j)) hp1)
      refine ⟨_, rfl, (by show 1 ≤ sizeLine; decide), fun p2 hp2 => ?_⟩
      have s5 := same_new (o := .tup [.ref q]) hp2
      have hm4 := s4 _ _ hm
      have n1 : p1 ≠ m := fun z => by
        rw [z, sm3 _ _ hm] at hp1
        cases hp1
      have n2 : p2 ≠ m := fun z => by
        rw [z, hm4] at hp2
        cases hp2
      show rCatA K _ _ _ _
      refine cat_any (m := m) (a := p1) (b := p2) (s5 _ _ upd_same) upd_same n1 n2 (s5 _ _ hm4) (by rw [List.length_take]; show _ + 1 ≤ _; exact Nat.le_of_lt (small6 (by omega))) (fun p3 H5 n3 s6 h3 => ?_)
      have sm6 : Same H H5 := Same.tr (Same.tr s4 s5) s6
      have hB5 := sm6 _ _ hB1
      have w2 : ¬ (HT.sIx ub.length 0 (some ((j + 1 : Nat) : Int)) = 0 ∧ HT.sIx ub.length ub.length none = ub.length) := fun z => by
        have := z.1
        rw [HT.sIx_nat] at this
        omega
      refine ⟨_, rfl, _, rfl, _, _, rfl, rfl, _, rfl, _, _, rfl, SqT.of hB5, fun z => absurd z w2, fun _ p4 hp4 => ?_⟩
      have c2 : cutV ub (some ((j : Int) + 1)) none = ub.drop (j + 1) := by
        show (ub.drop (HT.sIx ub.length 0 (some ((j + 1 : Nat) : Int)))).take (ub.length - HT.sIx ub.length 0 (some ((j + 1 : Nat) : Int))) = _
        rw [HT.sIx_nat, Nat.min_eq_left (by omega), List.take_of_length_le (by rw [List.length_drop]; omega)]
      rw [c2]
      have s7 := same_new (o := .tup (ub.drop (j + 1))) hp4
      have n4 : p4 ≠ m := fun z => by
        rw [z, sm6 _ _ hm] at hp4
        cases hp4
      show rCatA K _ _ _ _
      refine cat_any (m := m) (a := p3) (b := p4) (s7 _ _ h3) upd_same n3 n4 (s7 _ _ (sm6 _ _ hm)) (by rw [List.length_append, List.length_take, List.length_drop]; show _ + 1 + _ ≤ _; exact Nat.le_of_lt (small6 (by omega))) (fun p5 H6 n5 s8 h5 => ?_)
      have sm8 : Same H H6 := Same.tr (Same.tr sm6 s7) s8
      refine ⟨_, rfl, (by show 2 ≤ sizeLine; decide), fun p6 hp6 => ?_⟩
      have s9 := same_new (o := .tup [.ref p5, .bl (triedM v x (topM xs j)).2]) hp6
      have smAll : Same H _ := Same.tr sm8 s9
      have n6 : p6 ≠ m := fun z => by
        rw [z, sm8 _ _ hm] at hp6
        cases hp6
      refine k p6 _ (Same.free sm8 hp6) smAll (.tup n6 upd_same (.cons ?_ (.cons (.bl _) .nil)))
      refine .tup n5 (s9 _ _ h5) ?_
      have hq6 : H6 q = some (.tup (rowV (triedM v x (topM xs j)).1)) := s8 _ _ (s7 _ _ (s6 _ _ (s5 _ _ (same_new hp1 _ _ hq))))
      have aB6 := aB.mono (Same.but (m := m) smAll)
      have e9 : (xs.set j (triedM v x (topM xs j)).1).map rowD = ((xs.map rowD).take j ++ [rowD (triedM v x (topM xs j)).1]) ++ (xs.map rowD).drop (j + 1) := by
        rw [List.set_eq_take_append_cons_drop, if_pos hj, List.map_append, List.map_cons, List.map_take, List.map_drop, List.append_assoc]
        rfl
      rw [e9]
      exact all_app (all_app (all_take j aB6) (.cons (row_at nq (s9 _ _ hq6)) .nil)) (all_drop (j + 1) aB6)
end
end C83

set_option Elab.async false
set_option maxRecDepth 100000
set_option maxHeartbeats 4000000
set_option linter.all false
namespace C83
open PySem L2 My M78
abbrev sWait : Stmt := top 22
def waitL (ss : List (List Wd)) (xs : List Row) : Nat → List Nat
  | 0 => []
  | n + 1 => waitL ss xs n ++ (match ss[n]?, xs[n]? with | some s, some x => (if x.p < (s.length : Int) then [n] else []) | _, _ => [])
theorem waitL_len (ss : List (List Wd)) (xs : List Row) : ∀ n, (waitL ss xs n).length ≤ n
  | 0 => Nat.le_refl _
  | n + 1 => by
    have := waitL_len ss xs n
    unfold waitL
    rw [List.length_append]
    split
    · split <;> simp <;> omega
    · simp
      omega
section
variable {P : Program} {w : World} {K : PySem.W.Frag} {mg : Str → Option Value} {base : Heap}
abbrev nWait : List Str := ["scripts", "state", "at", "row"]
theorem scWait : FnScope nWait ["scripts", "state"] (defScope sWait) := ⟨rfl, rfl, rfl, by decide +kernel, rfl, by decide +kernel, by decide +kernel⟩
/-- the scripts that have steps left -/
def spWait : Sp := fun vs H Q _ => ∃ (m A B : Addr) (ss : List (List Wd)) (xs : List Row), vs = [.ref A, .ref B] ∧ At m H (.ref A) (scD ss) ∧ At m H (.ref B) (stD xs) ∧
  ss.length = xs.length ∧ xs.length ≤ 1000 ∧
  ∀ (q : Addr) (H' : Hp), H q = none → Same H H' → H' q = some (.lst ((waitL ss xs xs.length).map fun k : Nat => V.int (k : Int))) → Q (.ref q) H'
theorem pr_wait (D : Df K mg "waiting_ones" sWait ["scripts", "state"]) (T : Tx mg) : Pr P w K mg base 4 "waiting_ones" ["scripts", "state"] spWait := by
  refine D.pr scWait (fun vs H Q E h => ?_) (fun f cdv A outer s H vs Q E hr h => ?_)
  · obtain ⟨m, A, B, ss, xs, rfl, _⟩ := h
    rfl
  · obtain ⟨m, A, B, ss, xs, rfl, hA, hB, hle, hlen, k⟩ := h
    have nd := scWait.nd
    refine ⟨_, (pss_one (ps_ret (pe_lc (own := [("at", 2), ("row", 3)]) (g := gTup K 2 (gCons (gName 2) (gCons (gName 3) gNil))) (tt := tTest (tOp (rI0 fun i j => .bl (decide (i < j))) (tOp (rIxT K) (tVar 3) (tC (.int 0))) (tCB (fun xs H Q => ∃ x n, xs = [x] ∧ LenV K x H n ∧ Q (.int n) H) (tCons (tOp (rIxT K) (tVar 0) (tVar 2)) tNil)))) (by rfl) nd (pi_enumT (by rfl) T.enumerate (pa_cons (pv 1) pa_nil))
  (blkOk_by (own := [("at", 2), ("row", 3)]) (N := nWait) (sc := defScope sWait) (by decide +kernel))
  (fun _ _ _ _ _ => pg_tup rfl (pgs_cons (pg_name (i := 2) nd rfl (Or.inl rfl) (Or.inr rfl)) (pgs_cons (pg_name (i := 3) nd rfl (Or.inl rfl) (Or.inr rfl)) pgs_nil))) (fun _ _ _ _ _ => pts_one (pt_cmpR op_lt (pe_ix ix_tup (pv 3) pe_int (fun _ _ => rfl)) (pe_callB call_len (by rfl) T.len PySem.boot_len (pa_cons (pe_ix ix_tup (pv 0) (pv 2) (fun _ _ => rfl)) pa_nil)) (nomark _)))
  (fun _ _ _ _ _ => (pv 2))))), ?_⟩
    obtain ⟨_, ua, ea, nA, hA1, aA⟩ := at_tup hA
    cases ea
    obtain ⟨_, ub, eb, nB, hB1, aB⟩ := at_tup hB
    cases eb
    have lub : ub.length = xs.length := by
      rw [aB.length, List.length_map]
    refine ⟨_, rfl, _, _, rfl, SqT.of hB1, fun Dl hD => ?_⟩
    refine lc_it (walk_enumT (xs := ub)) (fun i H2 => Same H H2 ∧ H2 Dl = some (.lst ((waitL ss xs i).map fun k : Nat => V.int (k : Int)))) ?_ ?_ ?_ ?_
    · exact ⟨same_new hD, upd_same⟩
    · exact fun i H2 _ q => SqT.of (q.1 _ _ hB1)
    · rintro i y H2 H3 hi ⟨sm, hl⟩ ⟨T2, i', vr, rfl, hT2, rfl, ei, er⟩
      obtain rfl : V.int (i : Nat) = i' := Option.some.inj ei
      have hix : i < xs.length := by omega
      have his : i < ss.length := by omega
      obtain ⟨dr, e1, ar⟩ := aB.get er
      rw [List.getElem?_map, List.getElem?_eq_getElem hix] at e1
      cases e1
      obtain ⟨R, rfl, nR, hR⟩ := row_of ar
      obtain ⟨vsc, es1, asc⟩ := all_get (i := i) (d := .tuple (ss[i].map fun v => .str (wS v))) aA (by rw [List.getElem?_map, List.getElem?_eq_getElem his]; rfl)
      obtain ⟨aS, us, rfl, nS, hS, aS2⟩ := at_tup asc
      have lus : us.length = ss[i].length := by
        rw [aS2.length, List.length_map]
      have sT : Same H (upd H2 T2 (.tup [.int (i : Nat), .ref R])) := Same.tr sm (same_new hT2)
      have nDT : Dl ≠ T2 := ne_of_none hl hT2
      have hl3 : (upd H2 T2 (.tup [.int (i : Nat), .ref R])) Dl = some (.lst ((waitL ss xs i).map fun k : Nat => V.int (k : Int))) := by
        rw [upd_ne nDT]
        exact hl
      have hw : waitL ss xs (i + 1) = waitL ss xs i ++ (if xs[i].p < (ss[i].length : Int) then [i] else []) := by
        show waitL ss xs i ++ (match ss[i]?, xs[i]? with | some s, some x => (if x.p < (s.length : Int) then [i] else []) | _, _ => []) = _
        rw [List.getElem?_eq_getElem hix, List.getElem?_eq_getElem his]
      refine ⟨_, _, rfl, SqT.of upd_same, rfl, _, _, rfl, _, _, rfl, rfl, rfl, ?_⟩
      refine ⟨_, rfl, _, _, _, _, rfl, rfl, SqT.of (sT _ _ hR), rfl, ?_⟩
      refine ⟨_, rfl, _, rfl, _, _, _, _, rfl, rfl, SqT.of (sT _ _ hA1), atI_nat es1, ?_⟩
      refine ⟨_, _, rfl, (Or.inr ⟨_, SqT.of (sT _ _ hS), rfl⟩), ?_⟩
      refine ⟨_, _, rfl, rfl, _, rfl, ?_⟩
      rw [lus]
      by_cases hij : xs[i].p < (ss[i].length : Int)
      · rw [decide_eq_true hij]
        refine iteT ⟨_, rfl, _, hl3, ?_, ?_, ?_⟩
        · rw [List.length_map]
          have := waitL_len ss xs i
          exact small6 (by omega)
        · intro b u e
          rw [upd_ne (ne_of_none e hD)]
          exact sT _ _ e
        · rw [upd_same, hw, if_pos hij, List.map_append]
          rfl
      · rw [decide_eq_false hij]
        refine iteF ⟨sT, ?_⟩
        rw [hl3, hw, if_neg hij, List.append_nil]
    · rintro H2 ⟨s2, hl⟩
      rw [lub] at hl
      exact k _ _ hD s2 hl
end
end C83

set_option Elab.async false
set_option maxRecDepth 100000
set_option maxHeartbeats 4000000
set_option linter.all false
namespace C83
open PySem L2 My M78
abbrev sIsList : Stmt := top 13
section
variable {P : Program} {w : World} {K : PySem.W.Frag} {mg : Str → Option Value} {base : Heap}
abbrev nIsList : List Str := ["thing"]
theorem scIsList : FnScope nIsList ["thing"] (defScope sIsList) := ⟨rfl, rfl, rfl, by decide +kernel, rfl, by decide +kernel, by decide +kernel⟩
def lt2 : PyData → Bool
  | .list _ => true
  | .tuple _ => true
  | _ => false
/-- a list or a tuple -/
def spIsList : Sp := fun vs H Q _ => ∃ (m : Addr) (o : HO) (x : V) (d : PyData), H m = some o ∧ vs = [x] ∧ At m H x d ∧ ∀ H', Same H H' → Q (.bl (lt2 d)) H'
theorem pr_isList (D : Df K mg "is_list" sIsList ["thing"]) (T : Ty mg) : Pr P w K mg base 1 "is_list" ["thing"] spIsList := by
  refine D.pr scIsList (fun vs H Q E h => ?_) (fun f cdv A outer s H vs Q E hr h => ?_)
  · obtain ⟨m, o, x, d, hm, rfl, _⟩ := h
    rfl
  · obtain ⟨m, o, x, d, hm, rfl, ha, k⟩ := h
    have nd := scIsList.nd
    refine ⟨_, (pss_one (ps_ret (pe_callB call_isiT (by rfl) T.isinstance (by decide +kernel) (pa_cons (pv 0) (pa_cons (pe_tup (pa_cons (pe_bltn (v := .ty "list") (by rfl) T.list (by decide +kernel) rfl) (pa_cons (pe_bltn (v := .ty "tuple") (by rfl) T.tuple (by decide +kernel) rfl) pa_nil))) pa_nil))))), ?_⟩
    refine ⟨_, rfl, (by show 2 ≤ sizeLine; decide), fun tp htp => ?_⟩
    have sm := same_new (o := .tup [.ty "list", .ty "tuple"]) htp
    have ha2 := ha.mono (Same.but (m := m) sm)
    refine ⟨_, _, _, _, _, lt2 d, rfl, upd_same, cls_all ["list", "tuple"], ha2.ty, kit_any ?_, ?_⟩
    · cases ha
      · exact k_NoneType_lt
      · exact k_bool_lt
      · exact k_int_lt
      · exact k_str_lt
      · exact k_list_lt
      · exact k_tuple_lt
    · exact k _ sm
end
end C83

set_option Elab.async false
set_option maxRecDepth 100000
set_option linter.all false
/-! Iterating a list or a tuple, whichever it is. -/
namespace My
open PySem L2
section
variable {X : Cx} {tg e : Expr}
theorem pi_or {wa wb : TI} (ha : PI X tg e wa) (hb : PI X tg e wb) : PI X tg e (fun σ H R => wa σ H R ∨ wb σ H R) := ⟨fun pins s σ H R I h => by
  rcases h with h | h
  · exact ha.run pins s σ H R I h
  · exact hb.run pins s σ H R I h⟩
def iSq (K : PySem.W.Frag) (tl : TE) : TI := fun σ H R => iList K tl σ H R ∨ iTup K tl σ H R
theorem pi_sq {tl : TE} (hl : PE X e tl) : PI X tg e (iSq X.K tl) := pi_or (pi_list hl) (pi_tup hl)
/-- a list or a tuple of these -/
def Sq (H : Hp) (a : Addr) (us : List V) : Prop := H a = some (.lst us) ∨ H a = some (.tup us)
theorem Sq.same {H H' : Hp} {a : Addr} {us : List V} (s : Same H H') (h : Sq H a us) : Sq H' a us := h.elim (fun h => .inl (s _ _ h)) fun h => .inr (s _ _ h)
theorem Sq.len {K : PySem.W.Frag} {H : Hp} {a : Addr} {us : List V} (h : Sq H a us) : LenV K (.ref a) H us.length := h.elim (fun h => .inl ⟨_, SqL.of h, rfl⟩) fun h => .inr ⟨_, SqT.of h, rfl⟩
theorem isq {K : PySem.W.Frag} {tl : TE} {σ : L2.St} {H : Hp} {R : It → Hp → Prop} {a : Addr} {us : List V} (ht : ∀ Q : VK, Q (.ref a) H → tl σ H Q) (h : Sq H a us)
    (k : ∀ (J : It) (G : Hp → Prop), Walk J us.length G (YAt us) → (∀ H', (∀ o, H a = some o → H' a = some o) → G H') → R J H) : iSq K tl σ H R := by
  rcases h with h | h
  · exact .inl (ht _ ⟨a, rfl, ⟨us, SqL.of h⟩, k _ (fun H' => SqL K H' a us) walk_list (fun H' q => SqL.of (q _ h))⟩)
  · exact .inr (ht _ ⟨a, rfl, ⟨us, SqT.of h⟩, k _ (fun H' => SqT K H' a us) walk_tup (fun H' q => SqT.of (q _ h))⟩)
end
end My

set_option Elab.async false
set_option maxRecDepth 100000
set_option maxHeartbeats 4000000
set_option linter.all false
namespace C83
open PySem L2 My M78
abbrev sIsScript : Stmt := top 14
/-- the flags behind a word -/
def opB (v : Wd) (o : Bool) : Bool := isOp v || (o && !isEn v)
def rdB (v : Wd) (r : Bool) : Bool := decide (v = .sta) || (r && !decide (v = .sto))
def okW (v : Wd) (o r : Bool) : Bool := !(isOp v && o || (isEn v && !o)) && !(decide (v = .sta) && r || (decide (v = .sto) && !r))
def okS : Bool → Bool → List Wd → Bool
  | _, _, [] => true
  | o, r, v :: vs => okW v o r && okS (opB v o) (rdB v r) vs
/-- the flags behind n words -/
def flg (sc : List Wd) : Nat → Bool × Bool
  | 0 => (false, false)
  | n + 1 => match sc[n]? with | some v => (opB v (flg sc n).1, rdB v (flg sc n).2) | none => flg sc n
theorem in_all (v : Wd) : (!inV (.str (wS v)) (([.str (Str.ofString "begin"), .str (Str.ofString "immediate"), .str (Str.ofString "exclusive")] ++ [.str (Str.ofString "commit"), .str (Str.ofString "rollback")]) ++ [.str (Str.ofString "read"), .str (Str.ofString "start"), .str (Str.ofString "stop"), .str (Str.ofString "write")])) = false := by cases v <;> decide +kernel
theorem asg_tv {te : TE} {g : TG} {D : Ends} {σ : L2.St} {H : Hp} (x : V) (h : ∀ Q' : VK, Q' x H → te σ H Q') (k : g x σ H D.nx) : tAsg te g D σ H := h _ k
theorem seq_asg_tv {te : TE} {g : TG} {r : TS} {D : Ends} {σ : L2.St} {H : Hp} (x : V) (h : ∀ Q' : VK, Q' x H → te σ H Q') (k : g x σ H (r D)) : tSeq (tAsg te g) r D σ H := h _ k
section
variable {P : Program} {w : World} {K : PySem.W.Frag} {mg : Str → Option Value} {base : Heap}
abbrev nIsScript : List Str := ["thing", "opened", "reads", "step"]
theorem scIsScript : FnScope nIsScript ["thing"] (defScope sIsScript) := ⟨rfl, rfl, rfl, by decide +kernel, rfl, by decide +kernel, by decide +kernel⟩
/-- a script of known words, each allowed where it stands -/
def spIsScript : Sp := fun vs H Q _ => ∃ (m p : Addr) (o : HO) (sc : List Wd) (d : PyData), H m = some o ∧ vs = [.ref p] ∧ At m H (.ref p) d ∧ (d = .list (sc.map fun v => .str (wS v)) ∨ d = .tuple (sc.map fun v => .str (wS v))) ∧
  sc.length ≤ 8 ∧ (∀ n v, sc[n]? = some v → okW v (flg sc n).1 (flg sc n).2 = true) ∧ ∀ H', Same H H' → Q (.bl true) H'
theorem pr_isScript (D : Df K mg "is_script" sIsScript ["thing"]) (T : Ty mg) (T3 : mg "str" = none) (G : Tk K mg) (PL : Pr P w K mg base 1 "is_list" ["thing"] spIsList) : Pr P w K mg base 2 "is_script" ["thing"] spIsScript := by
  refine D.pr scIsScript (fun vs H Q E h => ?_) (fun f cdv A outer s H vs Q E hr h => ?_)
  · obtain ⟨m, p, o, sc, d, hm, rfl, _⟩ := h
    rfl
  · obtain ⟨m, p, o, sc, d, hm, rfl, ha, hd, hl, hok, k⟩ := h
    have nd := scIsScript.nd
    obtain ⟨aOp, gOp, qOp⟩ := G.op
    obtain ⟨aEn, gEn, qEn⟩ := G.en
    obtain ⟨aOt, gOt, qOt⟩ := G.ot
    refine ⟨_, (pss_cons (ps_if (PW.pt (pw_or (pt_not (pt_val (pe_callP PL hr (by rfl) (pa_cons (pv 0) pa_nil)))) (pw_or1 (pt_cmpR op_gt (pe_callB call_len (by rfl) T.len PySem.boot_len (pa_cons (pv 0) pa_nil)) pe_int (nomark _)))))
        (pss_one (ps_ret pe_bl))
        pss_nil)
      (pss_cons (ps_asg2 pe_bl (pg_name (i := 1) nd rfl (Or.inl rfl)) (pg_name (i := 2) nd rfl (Or.inl rfl)))
      (pss_cons (ps_for PassesOwn.never rfl (pi_sq (pv 0)) (pg_name (i := 3) nd rfl (Or.inl rfl))
        (pss_cons (ps_if (PW.pt (pw_or (pt_not (pt_val (pe_callB call_isi (by rfl) T.isinstance (by decide +kernel) (pa_cons (pv 3) (pa_cons (pe_bltn (v := .ty "str") (by rfl) T3 (by decide +kernel) rfl) pa_nil))))) (pw_or1 (pt_cmpR op_notIn_seq (pv 3) (pe_op op_catA (pe_op op_catA (pe_gR rfl gOp) (pe_gR rfl gEn)) (pe_gR rfl gOt)) (by rfl)))))
          (pss_one (ps_ret pe_bl))
          pss_nil)
        (pss_cons (ps_if (PW.pt (pw_or (PW.pt (pw_and (pt_cmpR op_in_seq (pv 3) (pe_gR rfl gOp) (by rfl)) (pw_and1 (pt_val (pv 1))))) (pw_or1 (PW.pt (pw_and (pt_cmpR op_in_seq (pv 3) (pe_gR rfl gEn) (by rfl)) (pw_and1 (pt_not (pt_val (pv 1)))))))))
          (pss_one (ps_ret pe_bl))
          pss_nil)
        (pss_cons (ps_if (PW.pt (pw_or (PW.pt (pw_and (pt_cmpR op_eq (pv 3) pe_str (nomark _)) (pw_and1 (pt_val (pv 2))))) (pw_or1 (PW.pt (pw_and (pt_cmpR op_eq (pv 3) pe_str (nomark _)) (pw_and1 (pt_not (pt_val (pv 2)))))))))
          (pss_one (ps_ret pe_bl))
          pss_nil)
        (pss_cons (ps_asg (pe_or (pe_cmpR op_in_seq (pv 3) (pe_gR rfl gOp) (by rfl)) (pe_one (pe_and (pv 1) (pe_one (pe_cmpR op_notIn_seq (pv 3) (pe_gR rfl gEn) (by rfl)))))) (pg_name (i := 1) nd rfl (Or.inl rfl)))
        (pss_one (ps_asg (pe_or (pe_cmpR op_eq (pv 3) pe_str (nomark _)) (pe_one (pe_and (pv 2) (pe_one (pe_cmpR op_ne (pv 3) pe_str (nomark _)))))) (pg_name (i := 2) nd rfl (Or.inl rfl)))))))))
      (pss_one (ps_ret pe_bl))))), ?_⟩
    obtain ⟨us, hsq, hus⟩ : ∃ us, Sq H p us ∧ AtAll m H us (sc.map fun v => .str (wS v)) := by
      rcases hd with rfl | rfl
      · cases ha with
        | lst n e q => exact ⟨_, .inl e, q⟩
      · cases ha with
        | tup n e q => exact ⟨_, .inr e, q⟩
    have hlen : us.length = sc.length := by
      rw [hus.length, List.length_map]
    have hlt : lt2 d = true := by
      rcases hd with rfl | rfl <;> rfl
    refine ⟨_, rfl, m, o, _, d, hm, rfl, ha, fun H1 s1 => ?_⟩
    rw [hlt]
    refine ⟨_, rfl, iteF ?_⟩
    refine ⟨_, rfl, _, _, rfl, (hsq.same s1).len, _, _, rfl, rfl, _, rfl, ?_⟩
    rw [decide_eq_false (show ¬ ((8 : Int) < (us.length : Int)) by omega)]
    refine iteF ?_
    refine isq (a := p) (us := us) (fun Q q => ⟨_, rfl, q⟩) (hsq.same s1) (fun J G W hG => ?_)
    refine for_it W (fun i σ H2 => Same H1 H2 ∧ ∃ o3, σ = [some (.ref p), some (.bl (flg sc i).1), some (.bl (flg sc i).2), o3]) ⟨fun _ _ e => e, _, rfl⟩ (fun i σ H2 _ q => hG _ (fun _ e => q.1 _ _ e)) ?_ ?_
    · rintro i x σ H2 H3 hi ⟨s2, o3, rfl⟩ ⟨rfl, ex⟩
      obtain ⟨dx, e1, ax⟩ := hus.get ex
      have his : i < sc.length := by omega
      have hv : sc[i]? = some sc[i] := List.getElem?_eq_getElem his
      rw [List.getElem?_map, hv] at e1
      cases e1
      cases ax
      have hw := hok i _ hv
      have hf : flg sc (i + 1) = (opB sc[i] (flg sc i).1, rdB sc[i] (flg sc i).2) := by
        show (match sc[i]? with | some v => (opB v (flg sc i).1, rdB v (flg sc i).2) | none => flg sc i) = _
        rw [hv]
      rw [hf]
      generalize sc[i] = v at *
      generalize (flg sc i).1 = fo at *
      generalize (flg sc i).2 = fr at *
      refine ⟨_, rfl, _, _, _, _, true, rfl, .ty "str", .base (.str _), kit_ty k_str_str, ?_⟩
      refine ⟨_, rfl, iteF ?_⟩
      have eSta : decide (V.str (wS v) = V.str (Str.ofString "start")) = decide (v = .sta) := eqW v .sta
      have eSto : decide (V.str (wS v) = V.str (Str.ofString "stop")) = decide (v = .sto) := eqW v .sto
      refine ⟨_, rfl, ?_⟩
      refine ⟨aOp, aEn, _, _, rfl, rfl, qOp _, qEn _, (by show 5 ≤ sizeLine; decide), (fun e => nomatch e), (fun _ e => nomatch e), fun _ _ p1 hp1 => ?_⟩
      have t1 := same_new (o := .tup ([.str (Str.ofString "begin"), .str (Str.ofString "immediate"), .str (Str.ofString "exclusive")] ++ [.str (Str.ofString "commit"), .str (Str.ofString "rollback")])) hp1
      refine ⟨p1, aOt, _, _, rfl, rfl, SqT.of upd_same, qOt _, (by show 9 ≤ sizeLine; decide), (fun e => nomatch e), (fun _ e => nomatch e), fun _ _ p2 hp2 => ?_⟩
      have t2 := same_new (o := .tup (([.str (Str.ofString "begin"), .str (Str.ofString "immediate"), .str (Str.ofString "exclusive")] ++ [.str (Str.ofString "commit"), .str (Str.ofString "rollback")]) ++ [.str (Str.ofString "read"), .str (Str.ofString "start"), .str (Str.ofString "stop"), .str (Str.ofString "write")])) hp2
      refine ⟨_, _, rfl, .inr (SqT.of upd_same), rfl, rfl, _, rfl, ?_⟩
      rw [in_all v]
      refine iteF ?_
      have s4 := Same.tr s2 (Same.tr t1 t2)
      dsimp only [tNext]
      refine seq_if_tv false (fun K' kk => ?_) (fun hb => by cases hb) (fun _ => ?_)
      · refine ⟨_, rfl, _, _, rfl, .inr (qOp _), rfl, rfl, _, rfl, ?_⟩
        rw [in_op v]
        cases hop : isOp v
        · refine iteF (iteF ⟨_, rfl, _, _, rfl, .inr (qEn _), rfl, rfl, _, rfl, ?_⟩)
          rw [in_en v]
          cases hen : isEn v
          · exact iteF kk
          · have hfo : fo = true := by
              cases fo
              · simp [okW, hop, hen] at hw
              · rfl
            subst hfo
            exact iteT ⟨_, rfl, _, rfl, kk⟩
        · have hfo : fo = false := by
            cases fo
            · rfl
            · simp [okW, hop] at hw
          subst hfo
          refine iteT ⟨_, rfl, _, rfl, iteF ⟨_, rfl, _, _, rfl, .inr (qEn _), rfl, rfl, _, rfl, ?_⟩⟩
          have hen : isEn v = false := by
            cases v <;> first | rfl | cases hop
          rw [in_en v, hen]
          exact iteF kk
      dsimp only [tNext]
      refine seq_if_tv false (fun K' kk => ?_) (fun hb => by cases hb) (fun _ => ?_)
      · refine ⟨_, rfl, rfl, _, rfl, ?_⟩
        rw [eSta]
        by_cases hst : v = .sta
        · have hfr : fr = false := by
            cases fr
            · rfl
            · simp [okW, hst] at hw
          rw [decide_eq_true hst]
          subst hfr
          refine iteT ⟨_, rfl, _, rfl, iteF ⟨_, rfl, rfl, _, rfl, ?_⟩⟩
          rw [eSto, decide_eq_false (show ¬ v = .sto by rw [hst]; decide)]
          exact iteF kk
        · rw [decide_eq_false hst]
          refine iteF (iteF ⟨_, rfl, rfl, _, rfl, ?_⟩)
          rw [eSto]
          by_cases hso : v = .sto
          · have hfr : fr = true := by
              cases fr
              · simp [okW, hso] at hw
              · rfl
            rw [decide_eq_true hso]
            subst hfr
            exact iteT ⟨_, rfl, _, rfl, kk⟩
          · rw [decide_eq_false hso]
            exact iteF kk
      dsimp only [tNext]
      refine seq_asg_tv (.bl (opB v fo)) (fun Q' kk => ?_) ?_
      · refine ⟨_, rfl, _, _, rfl, .inr (qOp _), rfl, rfl, _, rfl, ?_⟩
        rw [in_op v]
        unfold opB at kk
        cases hop : isOp v
        · rw [hop] at kk
          refine iteF ⟨_, rfl, _, rfl, ?_⟩
          cases fo
          · exact iteF kk
          · refine iteT ⟨_, rfl, _, _, rfl, .inr (qEn _), rfl, rfl, ?_⟩
            rw [in_en v]
            exact kk
        · rw [hop] at kk
          exact iteT kk
      dsimp only [gName]
      refine asg_tv (.bl (rdB v fr)) (fun Q' kk => ?_) ?_
      · refine ⟨_, rfl, rfl, _, rfl, ?_⟩
        rw [eSta]
        unfold rdB at kk
        cases hop : decide (v = .sta)
        · rw [hop] at kk
          refine iteF ⟨_, rfl, _, rfl, ?_⟩
          cases fr
          · exact iteF kk
          · refine iteT ⟨_, rfl, rfl, ?_⟩
            rw [eSto]
            exact kk
        · rw [hop] at kk
          exact iteT kk
      exact ⟨s4, _, rfl⟩
    · rintro σ H2 ⟨s2, o3, rfl⟩
      exact k _ (Same.tr s1 s2)
end
end C83

set_option Elab.async false
set_option maxRecDepth 100000
set_option maxHeartbeats 4000000
set_option linter.all false
namespace C83
open PySem L2 My M78
abbrev sRefused : Stmt := top 37
def refM (v : Wd) (o : Bool) (l t : Int) : Bool :=
  if isRs v = true then decide (l = 0) && decide (2 < t)
  else if (decide (v = .wri) && o) = true then decide (l < 2) && decide (1 < t)
  else if v = .imm then decide (1 < t)
  else if v = .com then decide (1 < l) && decide (0 < t)
  else (v == .wri || v == .exc) && decide (0 < t)
theorem in_we (v : Wd) : inV (.str (wS v)) [.str (Str.ofString "write"), .str (Str.ofString "exclusive")] = (v == .wri || v == .exc) := by cases v <;> decide +kernel
section
variable {P : Program} {w : World} {K : PySem.W.Frag} {mg : Str → Option Value} {base : Heap}
theorem and_tv {ta tb : TE} {σ : L2.St} {H : Hp} {Q : VK} (a c : Bool) (h1 : ∀ Q' : VK, Q' (.bl a) H → ta σ H Q') (h2 : ∀ Q' : VK, Q' (.bl c) H → tb σ H Q') (k : Q (.bl (a && c)) H) : tAndV ta tb σ H Q := h1 _ ⟨a, rfl, by
  cases a
  · exact iteF k
  · exact iteT (h2 _ k)⟩
theorem scRefused : FnScope ["_law_word", "_law_opened", "_law_lock", "_law_top"] ["_law_word", "_law_opened", "_law_lock", "_law_top"] (defScope sRefused) := ⟨rfl, rfl, rfl, by decide +kernel, rfl, by decide +kernel, by decide +kernel⟩
def spRefused : Sp := fun vs H Q _ => ∃ (v : Wd) (o : Bool) (l t : Int), vs = [.str (wS v), .bl o, .int l, .int t] ∧ ∀ H', Same H H' → Q (.bl (refM v o l t)) H'
theorem pr_refused (D : Df K mg "_law_refused" sRefused ["_law_word", "_law_opened", "_law_lock", "_law_top"]) : Pr P w K mg base 1 "_law_refused" ["_law_word", "_law_opened", "_law_lock", "_law_top"] spRefused := by
  refine D.pr scRefused (fun vs H Q E h => ?_) (fun f cdv A outer s H vs Q E hr h => ?_)
  · obtain ⟨v, o, l, t, rfl, _⟩ := h
    rfl
  · obtain ⟨v, o, l, t, rfl, k⟩ := h
    have nd := scRefused.nd
    have eW : ∀ u, decide (V.str (wS v) = V.str (wS u)) = decide (v = u) := eqW v
    unfold refM at k
    refine ⟨_, (pss_cons (ps_if (pt_cmpR op_in_seq (pv 0) (pe_tup (pa_cons pe_str (pa_cons pe_str pa_nil))) (by rfl))
        (pss_one (ps_ret (pe_and (pe_cmpR op_eq (pv 2) pe_int (nomark _)) (pe_one (pe_cmpR op_gt (pv 3) pe_int (nomark _))))))
        pss_nil)
      (pss_cons (ps_if (PW.pt (pw_and (pt_cmpR op_eq (pv 0) pe_str (nomark _)) (pw_and1 (pt_val (pv 1)))))
        (pss_one (ps_ret (pe_and (pe_cmpR op_lt (pv 2) pe_int (nomark _)) (pe_one (pe_cmpR op_gt (pv 3) pe_int (nomark _))))))
        pss_nil)
      (pss_cons (ps_if (pt_cmpR op_eq (pv 0) pe_str (nomark _))
        (pss_one (ps_ret (pe_cmpR op_gt (pv 3) pe_int (nomark _))))
        pss_nil)
      (pss_cons (ps_if (pt_cmpR op_eq (pv 0) pe_str (nomark _))
        (pss_one (ps_ret (pe_and (pe_cmpR op_gt (pv 2) pe_int (nomark _)) (pe_one (pe_cmpR op_gt (pv 3) pe_int (nomark _))))))
        pss_nil)
      (pss_one (ps_ret (pe_and (pe_cmpR op_in_seq (pv 0) (pe_tup (pa_cons pe_str (pa_cons pe_str pa_nil))) (by rfl)) (pe_one (pe_cmpR op_gt (pv 3) pe_int (nomark _)))))))))), ?_⟩
    refine ⟨_, rfl, (by show 2 ≤ sizeLine; decide), fun tp htp => ?_⟩
    have s1 := same_new (o := .tup [.str (Str.ofString "read"), .str (Str.ofString "start")]) htp
    refine ⟨_, _, rfl, .inr (SqT.of upd_same), rfl, rfl, _, rfl, ?_⟩
    rw [in_rs v]
    refine ite2 (fun h1 => ?_) (fun h1 => ?_)
    · rw [if_pos (show isRs v = true from h1)] at k
      refine and_tv (decide (l = 0)) (decide (2 < t)) (fun Q' kk => ⟨_, rfl, rfl, ?_⟩) (fun Q' kk => ⟨_, rfl, _, _, rfl, rfl, kk⟩) (k _ s1)
      rw [vint]
      exact kk
    rw [if_neg (show ¬ isRs v = true from h1)] at k
    dsimp only [tNext]
    refine seq_if_tv (decide (v = .wri) && o) (fun K' kk => ?_) (fun h2 => ?_) (fun h2 => ?_)
    · refine ⟨_, rfl, rfl, _, rfl, ?_⟩
      rw [show decide (V.str (wS v) = V.str (Str.ofString "write")) = decide (v = .wri) from eqW v .wri]
      cases hh : decide (v = .wri)
      · rw [hh] at kk
        exact iteF kk
      · rw [hh] at kk
        exact iteT ⟨_, rfl, _, rfl, kk⟩
    · rw [if_pos h2] at k
      exact and_tv (decide (l < 2)) (decide (1 < t)) (fun Q' kk => ⟨_, rfl, _, _, rfl, rfl, kk⟩) (fun Q' kk => ⟨_, rfl, _, _, rfl, rfl, kk⟩) (k _ s1)
    rw [if_neg (by rw [h2]; decide)] at k
    dsimp only [tNext]
    refine seq_if_tv (decide (v = .imm)) (fun K' kk => ⟨_, rfl, rfl, _, rfl, ?_⟩) (fun h3 => ?_) (fun h3 => ?_)
    · rw [show decide (V.str (wS v) = V.str (Str.ofString "immediate")) = decide (v = .imm) from eqW v .imm]
      exact kk
    · rw [if_pos (of_decide_eq_true h3)] at k
      exact ⟨_, rfl, _, _, rfl, rfl, k _ s1⟩
    rw [if_neg (of_decide_eq_false h3)] at k
    dsimp only [tNext]
    refine seq_if_tv (decide (v = .com)) (fun K' kk => ⟨_, rfl, rfl, _, rfl, ?_⟩) (fun h4 => ?_) (fun h4 => ?_)
    · rw [show decide (V.str (wS v) = V.str (Str.ofString "commit")) = decide (v = .com) from eqW v .com]
      exact kk
    · rw [if_pos (of_decide_eq_true h4)] at k
      exact and_tv (decide (1 < l)) (decide (0 < t)) (fun Q' kk => ⟨_, rfl, _, _, rfl, rfl, kk⟩) (fun Q' kk => ⟨_, rfl, _, _, rfl, rfl, kk⟩) (k _ s1)
    rw [if_neg (of_decide_eq_false h4)] at k
    dsimp only [tNext]
    refine ⟨_, rfl, (by show 2 ≤ sizeLine; decide), fun tq htq => ?_⟩
    have s2 := Same.tr s1 (same_new (o := .tup [.str (Str.ofString "write"), .str (Str.ofString "exclusive")]) htq)
    refine ⟨_, _, rfl, .inr (SqT.of upd_same), rfl, rfl, _, rfl, ?_⟩
    rw [in_we v]
    cases hw : (v == .wri || v == .exc)
    · rw [hw] at k
      exact iteF (k _ s2)
    · rw [hw] at k
      exact iteT ⟨_, rfl, _, _, rfl, rfl, k _ s2⟩
end
end C83

set_option Elab.async false
set_option maxRecDepth 100000
set_option maxHeartbeats 4000000
set_option linter.all false
namespace C83
open PySem L2 My M78
abbrev sBegun : Stmt := top 40
def row0 : Row := ⟨0, false, false, 0⟩
def Rows0 (m : Addr) (H : Hp) (vs : List V) : Prop := ∀ v ∈ vs, ∃ R, v = .ref R ∧ R ≠ m ∧ H R = some (.tup (rowV row0))
theorem Rows0.all {m : Addr} {H : Hp} : ∀ {vs : List V}, Rows0 m H vs → AtAll m H vs ((List.replicate vs.length row0).map rowD)
  | [], _ => .nil
  | v :: vs, h => by
    obtain ⟨R, rfl, n, e⟩ := h v (List.mem_cons_self ..)
    exact .cons (row_at n e) (Rows0.all fun u hu => h u (List.mem_cons_of_mem _ hu))
section
variable {P : Program} {w : World} {K : PySem.W.Frag} {mg : Str → Option Value} {base : Heap}
abbrev nBegun : List Str := ["_law_scripts_here", "_law_one_here"]
theorem scBegun : FnScope nBegun ["_law_scripts_here"] (defScope sBegun) := ⟨rfl, rfl, rfl, by decide +kernel, rfl, by decide +kernel, by decide +kernel⟩
def spBegun : Sp := fun vs H Q _ => ∃ (m A : Addr) (o : HO) (ss : List (List Wd)), H m = some o ∧ vs = [.ref A] ∧ At m H (.ref A) (scD ss) ∧ ss.length ≤ 1000 ∧
  ∀ (q : Addr) (H' : Hp), H q = none → Same H H' → At m H' (.ref q) (stD (List.replicate ss.length row0)) → Q (.ref q) H'
theorem pr_begun (D : Df K mg "_law_begun" sBegun ["_law_scripts_here"]) (T : Ty mg) : Pr P w K mg base 1 "_law_begun" ["_law_scripts_here"] spBegun := by
  refine D.pr scBegun (fun vs H Q E h => ?_) (fun f cdv A outer s H vs Q E hr h => ?_)
  · obtain ⟨m, A, o, ss, hm, rfl, _⟩ := h
    rfl
  · obtain ⟨m, A, o, ss, hm, rfl, hA, hle, k⟩ := h
    have nd := scBegun.nd
    refine ⟨_, (pss_one (ps_ret (pe_callTy call_tuple_of (by rfl) T.tuple (by decide +kernel) (pa_cons (pe_lc (own := [("_law_one_here", 1)]) (g := gName 1) (tt := tYes) (by rfl) nd (pi_tup (pv 0))
  (blkOk_by (own := [("_law_one_here", 1)]) (N := nBegun) (sc := defScope sBegun) (by decide +kernel))
  (fun _ _ _ _ _ => pg_name (i := 1) nd rfl (Or.inl rfl) (Or.inr rfl)) (fun _ _ _ _ _ => pts_nil)
  (fun _ _ _ _ _ => (pe_tup (pa_cons pe_int (pa_cons pe_bl (pa_cons pe_bl (pa_cons pe_int pa_nil))))))) pa_nil)))), ?_⟩
    obtain ⟨_, ua, ea, nA, hA1, aA⟩ := at_tup hA
    cases ea
    have lua : ua.length = ss.length := by
      rw [aA.length, List.length_map]
    refine ⟨_, rfl, _, rfl, ⟨_, SqT.of hA1⟩, fun Dl hD => ?_⟩
    refine lc_it (walk_tup (xs := ua)) (fun i H2 => Same H H2 ∧ ∃ vs, H2 Dl = some (.lst vs) ∧ vs.length = i ∧ Rows0 m H2 vs) ?_ ?_ ?_ ?_
    · exact ⟨same_new hD, _, upd_same, rfl, fun v hv => nomatch hv⟩
    · exact fun i H2 _ q => SqT.of (q.1 _ _ hA1)
    · rintro i y H2 H3 hi ⟨sm, vs, hl, lv, av⟩ ⟨rfl, er⟩
      refine ⟨rfl, ?_⟩
      refine ⟨(by show 4 ≤ sizeLine; decide), fun R hR => ?_⟩
      have nD : Dl ≠ R := ne_of_none hl hR
      have nR : R ≠ m := fun z => by
        rw [z, sm _ _ hm] at hR
        cases hR
      have nDm : Dl ≠ m := fun z => by
        rw [z, hm] at hD
        cases hD
      refine ⟨vs, (by rw [upd_ne nD]; exact hl), small6 (by omega), ?_, vs ++ [.ref R], upd_same, by rw [List.length_append, lv]; rfl, ?_⟩
      · intro b u e
        rw [upd_ne (ne_of_none e hD)]
        exact same_new hR _ _ (sm _ _ e)
      · intro v hv
        rcases List.mem_append.mp hv with h | h
        · obtain ⟨R', rfl, n', e'⟩ := av v h
          have nn : R' ≠ Dl := ne_of e' hl (by intro z; cases z)
          exact ⟨R', rfl, n', by rw [upd_ne nn]; exact same_new hR _ _ e'⟩
        · obtain rfl := List.mem_singleton.mp h
          exact ⟨R, rfl, nR, by rw [upd_ne (Ne.symm nD)]; exact upd_same⟩
    · rintro H2 ⟨s2, vs, hl, lv, av⟩
      have av := av.all
      rw [lv, lua] at av
      refine ⟨_, _, rfl, .inl ⟨SqL.of hl, fun q hq => ?_⟩⟩
      have s3 := same_new (o := .tup vs) hq
      refine k q _ (Same.free s2 hq) (Same.tr s2 s3) (.tup (fun z => by rw [z, s2 _ _ hm] at hq; cases hq) upd_same (av.mono (Same.but (m := m) s3)))
end
end C83

set_option Elab.async false
set_option maxRecDepth 100000
set_option maxHeartbeats 4000000
set_option linter.all false
/-! Data apart from two objects; a list of data under construction. -/
namespace My
open PySem PySem.Spec PyProof.Rows L2
/-- all but two objects stay -/
def But2 (m c : Addr) (H H' : Hp) : Prop := ∀ b o, H b = some o → b ≠ m → b ≠ c → H' b = some o
mutual
theorem At.but2 {m c : Addr} {H H' : Hp} (b : But2 m c H H') : ∀ {v : V} {d : PyData}, At m H v d → At c H v d → At m H' v d
  | _, _, .non, _ => .non
  | _, _, .bl k, _ => .bl k
  | _, _, .int i, _ => .int i
  | _, _, .str x, _ => .str x
  | _, _, .lst n h q, .lst n' h' q' => by
    rw [h] at h'
    cases h'
    exact .lst n (b _ _ h n n') (AtAll.but2 b q q')
  | _, _, .tup n h q, .tup n' h' q' => by
    rw [h] at h'
    cases h'
    exact .tup n (b _ _ h n n') (AtAll.but2 b q q')
theorem AtAll.but2 {m c : Addr} {H H' : Hp} (b : But2 m c H H') : ∀ {vs : List V} {ds : List PyData}, AtAll m H vs ds → AtAll c H vs ds → AtAll m H' vs ds
  | _, _, .nil, _ => .nil
  | _, _, .cons h q, .cons h' q' => .cons (At.but2 b h h') (AtAll.but2 b q q')
end
mutual
theorem At.fresh {m c : Addr} {H : Hp} (hc : H c = none) : ∀ {v : V} {d : PyData}, At m H v d → At c H v d
  | _, _, .non => .non
  | _, _, .bl k => .bl k
  | _, _, .int i => .int i
  | _, _, .str x => .str x
  | _, _, .lst n h q => .lst (ne_of_none h hc) h (AtAll.fresh hc q)
  | _, _, .tup n h q => .tup (ne_of_none h hc) h (AtAll.fresh hc q)
theorem AtAll.fresh {m c : Addr} {H : Hp} (hc : H c = none) : ∀ {vs : List V} {ds : List PyData}, AtAll m H vs ds → AtAll c H vs ds
  | _, _, .nil => .nil
  | _, _, .cons h q => .cons (At.fresh hc h) (AtAll.fresh hc q)
end
theorem But2.swap {m c : Addr} {H H' : Hp} (b : But2 m c H H') : But2 c m H H' := fun x o e n1 n2 => b x o e n2 n1
theorem But2.ofM {m c : Addr} {H H' : Hp} (b : But m H H') : But2 m c H H' := fun x o e n1 _ => b x o e n1
theorem But2.upd {m c : Addr} {H : Hp} {o : HO} : But2 m c H (upd H c o) := fun x u e _ n => by
  rw [upd_ne n]
  exact e
theorem Same.new {H : Hp} {p : Addr} {o : HO} (h : H p = none) : Same H (upd H p o) := fun b u e => by
  rw [upd_ne (ne_of_none e h)]
  exact e
/-- at c a list of the values vs is being made, the data ds, apart from m and from itself -/
def Bld (m c : Addr) (H : Hp) (vs : List V) (ds : List PyData) : Prop := c ≠ m ∧ H c = some (.lst vs) ∧ AtAll m H vs ds ∧ AtAll c H vs ds
theorem Bld.start {m c : Addr} {H : Hp} {o : HO} (hm : H m = some o) (hc : H c = none) : Bld m c (upd H c (.lst [])) [] [] :=
  ⟨fun z => (by rw [z, hm] at hc; cases hc), upd_same, .nil, .nil⟩
theorem Bld.but {m c : Addr} {H H' : Hp} {vs : List V} {ds : List PyData} (h : Bld m c H vs ds) (b : But m H H') : Bld m c H' vs ds :=
  ⟨h.1, b _ _ h.2.1 h.1, h.2.2.1.mono b, h.2.2.2.but2 (But2.ofM b).swap h.2.2.1⟩
theorem Bld.same {m c : Addr} {H H' : Hp} {vs : List V} {ds : List PyData} (h : Bld m c H vs ds) (s : Same H H') : Bld m c H' vs ds := h.but (Same.but s)
theorem Bld.push {m c : Addr} {H : Hp} {vs : List V} {ds : List PyData} {v : V} {d : PyData} (h : Bld m c H vs ds) (a : At m H v d) (b : At c H v d) : Bld m c (upd H c (.lst (vs ++ [v]))) (vs ++ [v]) (ds ++ [d]) :=
  ⟨h.1, upd_same, (h.2.2.1.append a).but2 But2.upd (h.2.2.2.append b), (h.2.2.2.append b).but2 (fun x u e n1 _ => by rw [upd_ne n1]; exact e) (h.2.2.1.append a)⟩
theorem Bld.len {m c : Addr} {H : Hp} {vs : List V} {ds : List PyData} (h : Bld m c H vs ds) : vs.length = ds.length := h.2.2.1.length
/-- the list itself as data -/
theorem Bld.at {m c : Addr} {H : Hp} {vs : List V} {ds : List PyData} (h : Bld m c H vs ds) : At m H (.ref c) (.list ds) := .lst h.1 h.2.1 h.2.2.1
theorem Bld.tup {m c p : Addr} {H : Hp} {vs : List V} {ds : List PyData} {o : HO} (h : Bld m c H vs ds) (hm : H m = some o) (hp : H p = none) : At m (upd H p (.tup vs)) (.ref p) (.tuple ds) :=
  .tup (fun z => by rw [z, hm] at hp; cases hp) upd_same (h.2.2.1.mono (Same.but (Same.new hp)))
/-- a list or a tuple of these data -/
def Sq2 (d : PyData) (ds : List PyData) : Prop := d = .list ds ∨ d = .tuple ds
theorem Sq2.at {m : Addr} {H : Hp} {v : V} {d : PyData} {ds : List PyData} (s : Sq2 d ds) (h : At m H v d) : ∃ a vs, v = .ref a ∧ a ≠ m ∧ Sq H a vs ∧ AtAll m H vs ds := by
  rcases s with rfl | rfl
  · cases h with
    | lst n e q => exact ⟨_, _, rfl, n, .inl e, q⟩
  · cases h with
    | tup n e q => exact ⟨_, _, rfl, n, .inr e, q⟩
theorem Sq.sqLT {K : PySem.W.Frag} {H : Hp} {a : Addr} {vs : List V} (h : Sq H a vs) : SqL K H a vs ∨ SqT K H a vs := h.elim (fun h => .inl (SqL.of h)) fun h => .inr (SqT.of h)
def rTupOf (K : PySem.W.Frag) : List V → Hp → VK → Prop := fun xs H Q => ∃ p ys, xs = [.ref p] ∧ ((SqL K H p ys ∧ ∀ l, H l = none → Q (.ref l) (upd H l (.tup ys))) ∨ (SqT K H p ys ∧ Q (.ref p) H))
/-- tuple(x) of a list or a tuple of data -/
theorem tuple_any {K : PySem.W.Frag} {m a : Addr} {H : Hp} {vs : List V} {ds : List PyData} {o : HO} {Q : VK} (hm : H m = some o) (na : a ≠ m) (h : Sq H a vs) (q : AtAll m H vs ds)
    (k : ∀ (p : Addr) (H' : Hp), Same H H' → (p = a ∨ H p = none) → At m H' (.ref p) (.tuple ds) → Q (.ref p) H') : rTupOf K [.ref a] H Q := by
  rcases h with h | h
  · refine ⟨_, _, rfl, .inl ⟨SqL.of h, fun p hp => ?_⟩⟩
    exact k p _ (Same.new hp) (.inr hp) (.tup (fun z => by rw [z, hm] at hp; cases hp) upd_same (q.mono (Same.but (Same.new hp))))
  · exact ⟨_, _, rfl, .inr ⟨SqT.of h, k a H (fun _ _ e => e) (.inl rfl) (.tup na h q)⟩⟩
end My

set_option Elab.async false
set_option maxRecDepth 100000
set_option maxHeartbeats 4000000
set_option linter.all false
namespace C83
open PySem L2 My M78

def scE (sc : List Wd) : List PyData := sc.map fun v => .str (wS v)
/-- scripts, each a list or a tuple, all in a list or a tuple -/
def ScIn (ss : List (List Wd)) (d : PyData) : Prop := ∃ ds, Sq2 d ds ∧ Paired (fun sc e => Sq2 e (scE sc)) ss ds
def okScr (sc : List Wd) : Prop := sc.length ≤ 8 ∧ ∀ n v, sc[n]? = some v → okW v (flg sc n).1 (flg sc n).2 = true
theorem paired_get {α β : Type} {R : α → β → Prop} : ∀ {xs : List α} {ys : List β} {i : Nat} {y : β}, Paired R xs ys → ys[i]? = some y → ∃ x, xs[i]? = some x ∧ R x y
  | _, _, _, _, .nil, e => by simp at e
  | _, _, 0, _, .cons h _, e => by
    simp at e
    subst e
    exact ⟨_, rfl, h⟩
  | _, _, i + 1, y, .cons _ q, e => by
    obtain ⟨x, h1, h2⟩ := paired_get (i := i) (y := y) q (by simpa using e)
    exact ⟨x, by simpa using h1, h2⟩
theorem paired_len {α β : Type} {R : α → β → Prop} : ∀ {xs : List α} {ys : List β}, Paired R xs ys → xs.length = ys.length
  | _, _, .nil => rfl
  | _, _, .cons _ q => by rw [List.length_cons, List.length_cons, paired_len q]
theorem take_succ' {α : Type} {xs : List α} {i : Nat} {x : α} (h : xs[i]? = some x) : xs.take (i + 1) = xs.take i ++ [x] := by
  rw [List.take_add_one, h]
  rfl
abbrev sChecked : Stmt := top 15
abbrev nChecked : List Str := ["scripts", "script"]
theorem scChecked : FnScope nChecked ["scripts"] (defScope sChecked) := ⟨rfl, rfl, rfl, by decide +kernel, rfl, by decide +kernel, by decide +kernel⟩
abbrev sFirst : Stmt := top 16
abbrev nFirst : List Str := ["scripts", "script"]
theorem scFirst : FnScope nFirst ["scripts"] (defScope sFirst) := ⟨rfl, rfl, rfl, by decide +kernel, rfl, by decide +kernel, by decide +kernel⟩
section
variable {P : Program} {w : World} {K : PySem.W.Frag} {mg : Str → Option Value} {base : Heap}

def spChecked : Sp := fun vs H Q _ => ∃ (m A : Addr) (o : HO) (ss : List (List Wd)) (d : PyData), H m = some o ∧ vs = [.ref A] ∧ At m H (.ref A) d ∧ ScIn ss d ∧ 1 ≤ ss.length ∧ ss.length ≤ 4 ∧ (∀ sc ∈ ss, okScr sc) ∧
  ∀ (q : Addr) (H' : Hp), Same H H' → At m H' (.ref q) (scD ss) → Q (.ref q) H'
theorem pr_checked (D : Df K mg "checked" sChecked ["scripts"]) (T : Ty mg) (PL : Pr P w K mg base 1 "is_list" ["thing"] spIsList) (PI : Pr P w K mg base 2 "is_script" ["thing"] spIsScript) : Pr P w K mg base 3 "checked" ["scripts"] spChecked := by
  refine D.pr scChecked (fun vs H Q E h => ?_) (fun f cdv A outer s H vs Q E hr h => ?_)
  · obtain ⟨m, A, o, ss, d, hm, rfl, _⟩ := h
    rfl
  · obtain ⟨m, A, o, ss, d, hm, rfl, hA, ⟨ds, sq, pr⟩, l1, l4, hok, k⟩ := h
    have nd := scChecked.nd
    have hr1 := hr.mono (show 1 ≤ 2 by decide)
    refine ⟨_, (pss_cons (ps_if (PW.pt (pw_or (pt_not (pt_val (pe_callP PL hr1 (by rfl) (pa_cons (pv 0) pa_nil)))) (pw_or (pt_not (pt_chain op_le op_le pe_int (pe_callB call_len (by rfl) T.len PySem.boot_len (pa_cons (pv 0) pa_nil)) pe_int)) (pw_or1 (pt_not (pt_val (pe_callB (cr_all rfl) (by rfl) T.all (by decide +kernel) (pa_cons (pe_lc (own := [("script", 1)]) (g := gName 1) (tt := tYes) (by rfl) nd (pi_sq (pv 0))
  (blkOk_by (own := [("script", 1)]) (N := nChecked) (sc := defScope sChecked) (by decide +kernel))
  (fun _ _ _ _ _ => pg_name (i := 1) nd rfl (Or.inl rfl) (Or.inr rfl)) (fun _ _ _ _ _ => pts_nil)
  (fun _ _ _ _ _ => (pe_callP PI hr (by rfl) (pa_cons (pv 1) pa_nil)))) pa_nil))))))))
        (pss_one ps_never)
        pss_nil)
      (pss_one (ps_ret (pe_callTy call_tuple_of (by rfl) T.tuple (by decide +kernel) (pa_cons (pe_lc (own := [("script", 1)]) (g := gName 1) (tt := tYes) (te := tCB (rTupOf K) (tCons (tVar 1) tNil)) (by rfl) nd (pi_sq (pv 0))
  (blkOk_by (own := [("script", 1)]) (N := nChecked) (sc := defScope sChecked) (by decide +kernel))
  (fun _ _ _ _ _ => pg_name (i := 1) nd rfl (Or.inl rfl) (Or.inr rfl)) (fun _ _ _ _ _ => pts_nil)
  (fun _ _ _ _ _ => (pe_callTy call_tuple_of (by rfl) T.tuple (by decide +kernel) (pa_cons (pv 1) pa_nil)))) pa_nil))))), ?_⟩
    obtain ⟨_, ua, ea, nA, hA1, aA⟩ := sq.at hA
    cases ea
    have lds := paired_len pr
    have lua : ua.length = ss.length := by
      rw [aA.length, lds]
    have hlt : lt2 d = true := by
      rcases sq with rfl | rfl <;> rfl
    refine ⟨_, rfl, m, o, _, d, hm, rfl, hA, fun H1 s1 => ?_⟩
    rw [hlt]
    refine ⟨_, rfl, iteF ?_⟩
    refine ⟨_, rfl, _, _, rfl, (hA1.same s1).len, _, _, rfl, rfl, _, rfl, ?_⟩
    rw [decide_eq_true (show (1 : Int) ≤ (ua.length : Int) by omega)]
    refine iteT ⟨_, _, rfl, rfl, _, rfl, ?_⟩
    rw [decide_eq_true (show (ua.length : Int) ≤ 4 by omega)]
    refine iteF ?_
    refine isq (a := A) (us := ua) (fun Q q => ⟨_, rfl, q⟩) (hA1.same s1) (fun J G W hG => fun Dl hD => ?_)
    refine lc_it W (fun i H2 => Same H1 H2 ∧ H2 Dl = some (.lst ((List.replicate i true).map V.bl))) ?_ ?_ ?_ ?_
    · exact ⟨same_new hD, upd_same⟩
    · exact fun i H2 _ q => hG _ (fun _ e => q.1 _ _ e)
    · rintro i y H9 H2 hi ⟨sm, hl⟩ ⟨rfl, er⟩
      have s2 : Same H H2 := Same.tr s1 sm
      obtain ⟨de, e1, ae⟩ := aA.get er
      obtain ⟨sc, e2, sqe⟩ := paired_get pr e1
      obtain ⟨ap, us, rfl, nap, hap, aap⟩ := sqe.at ae
      have hokc := hok sc (List.mem_of_getElem? e2)
      refine ⟨rfl, ?_⟩
      refine ⟨_, rfl, m, ap, o, sc, de, s2 _ _ hm, rfl, ae.mono (Same.but s2), sqe, hokc.1, hokc.2, fun H4 s4 => ?_⟩
      refine ⟨_, s4 _ _ hl, ?_, ?_, ?_⟩
      · rw [List.length_map, List.length_replicate]
        exact small6 (by omega)
      · intro b u e
        rw [upd_ne (ne_of_none e hD)]
        exact s4 _ _ (sm _ _ e)
      · rw [upd_same, List.replicate_succ', List.map_append]
        rfl
    · rintro H2 ⟨s2, hl⟩
      refine ⟨_, _, rfl, SqL.of hl, ?_⟩
      rw [show (List.replicate ua.length true).all id = true from by simp]
      refine ⟨_, rfl, iteF ?_⟩
      have s3 : Same H H2 := Same.tr s1 s2
      refine isq (a := A) (us := ua) (fun Q q => ⟨_, rfl, q⟩) (hA1.same s3) (fun J G W hG => fun Dm hDm => ?_)
      have hm2 := s3 _ _ hm
      refine lc_it W (fun i H4 => Same H2 H4 ∧ ∃ vs, Bld m Dm H4 vs ((ss.take i).map fun sc => .tuple (scE sc))) ?_ ?_ ?_ ?_
      · exact ⟨same_new hDm, [], Bld.start hm2 hDm⟩
      · exact fun i H4 _ q => hG _ (fun _ e => q.1 _ _ e)
      · rintro i y H9 H4 hi ⟨sm, vs, bl⟩ ⟨rfl, er⟩
        have s4 : Same H H4 := Same.tr s3 sm
        obtain ⟨de, e1, ae⟩ := aA.get er
        obtain ⟨sc, e2, sqe⟩ := paired_get pr e1
        obtain ⟨ap, us, rfl, nap, hap, aap⟩ := sqe.at ae
        have neD : ap ≠ Dm := by
          rcases hap with h | h
          · exact ne_of_none (s3 _ _ h) hDm
          · exact ne_of_none (s3 _ _ h) hDm
        have aap4 := aap.mono (Same.but (m := m) s4)
        have aapD : AtAll Dm H4 us (scE sc) := (aap.mono (Same.but (m := m) s3)).fresh hDm |>.mono (Same.but sm)
        refine ⟨rfl, ?_⟩
        refine ⟨_, rfl, ?_⟩
        dsimp only [tNil]
        refine tuple_any (m := m) (ds := scE sc) (s4 _ _ hm) nap (hap.same s4) aap4 (fun p H6 s6 hp ap6 => ?_)
        have bl6 := bl.same s6
        have np : p ≠ Dm := by
          rcases hp with rfl | hp
          · exact neD
          · exact fun z => by
              rw [z, bl.2.1] at hp
              cases hp
        have apD : At Dm H6 (.ref p) (.tuple (scE sc)) := by
          cases ap6 with
          | tup n e q =>
            refine .tup np e ?_
            have : ∀ {vs : List V} {sc : List Wd}, AtAll m H6 vs (scE sc) → AtAll Dm H6 vs (scE sc) := by
              intro vs sc
              induction sc generalizing vs with
              | nil =>
                intro h
                cases h
                exact .nil
              | cons a r ih =>
                intro h
                cases h with
                | cons h1 h2 =>
                  cases h1
                  exact .cons (.str _) (ih h2)
            exact this q
        refine ⟨vs, bl6.2.1, ?_, ?_, vs ++ [.ref p], ?_⟩
        · rw [bl.len, List.length_map, List.length_take]
          exact small6 (by omega)
        · intro b u e
          rw [upd_ne (ne_of_none e hDm)]
          exact s6 _ _ (sm _ _ e)
        · rw [take_succ' e2, List.map_append]
          exact bl6.push ap6 apD
      · rintro H4 ⟨s4, vs, bl⟩
        have s5 : Same H H4 := Same.tr s3 s4
        rw [lua, List.take_length] at bl
        refine ⟨_, _, rfl, .inl ⟨SqL.of bl.2.1, fun q hq => ?_⟩⟩
        exact k q _ (Same.tr s5 (same_new hq)) (bl.tup (s5 _ _ hm) hq)
/-- the state at the beginning -/
def spFirst : Sp := fun vs H Q _ => ∃ (m A : Addr) (o : HO) (ss : List (List Wd)) (d : PyData), H m = some o ∧ vs = [.ref A] ∧ At m H (.ref A) d ∧ ScIn ss d ∧ 1 ≤ ss.length ∧ ss.length ≤ 4 ∧ (∀ sc ∈ ss, okScr sc) ∧
  ∀ (q : Addr) (H' : Hp), Same H H' → At m H' (.ref q) (stD (List.replicate ss.length row0)) → Q (.ref q) H'
theorem pr_first (D : Df K mg "first_state" sFirst ["scripts"]) (T : Ty mg) (G : Tk K mg) (PC : Pr P w K mg base 3 "checked" ["scripts"] spChecked) : Pr P w K mg base 4 "first_state" ["scripts"] spFirst := by
  refine D.pr scFirst (fun vs H Q E h => ?_) (fun f cdv A outer s H vs Q E hr h => ?_)
  · obtain ⟨m, A, o, ss, d, hm, rfl, _⟩ := h
    rfl
  · obtain ⟨m, A, o, ss, d, hm, rfl, hA, hin, l1, l4, hok, k⟩ := h
    have nd := scFirst.nd
    obtain ⟨_, g0⟩ := G.l0
    refine ⟨_, (pss_one (ps_ret (pe_callTy call_tuple_of (by rfl) T.tuple (by decide +kernel) (pa_cons (pe_lc (own := [("script", 1)]) (g := gName 1) (tt := tYes) (by rfl) nd (pi_tup (pe_callP PC hr (by rfl) (pa_cons (pv 0) pa_nil)))
  (blkOk_by (own := [("script", 1)]) (N := nFirst) (sc := defScope sFirst) (by decide +kernel))
  (fun _ _ _ _ _ => pg_name (i := 1) nd rfl (Or.inl rfl) (Or.inr rfl)) (fun _ _ _ _ _ => pts_nil)
  (fun _ _ _ _ _ => (pe_tup (pa_cons pe_int (pa_cons pe_bl (pa_cons pe_bl (pa_cons (pe_gI rfl g0) pa_nil))))))) pa_nil)))), ?_⟩
    refine ⟨_, rfl, m, A, o, ss, d, hm, rfl, hA, hin, l1, l4, hok, fun q H0 s0 aq => ?_⟩
    obtain ⟨_, ua, ea, nA, hA1, aA⟩ := at_tup aq
    cases ea
    have hm0 := s0 _ _ hm
    have lua : ua.length = ss.length := by
      rw [aA.length, List.length_map]
    refine ⟨_, rfl, ⟨_, SqT.of hA1⟩, fun Dl hD => ?_⟩
    refine lc_it (walk_tup (xs := ua)) (fun i H2 => Same H0 H2 ∧ ∃ vs, Bld m Dl H2 vs ((List.replicate i row0).map rowD)) ?_ ?_ ?_ ?_
    · exact ⟨same_new hD, [], Bld.start hm0 hD⟩
    · exact fun i H2 _ q => SqT.of (q.1 _ _ hA1)
    · rintro i y H2 H3 hi ⟨sm, vs, bl⟩ ⟨rfl, er⟩
      refine ⟨rfl, ?_⟩
      refine ⟨(by show 4 ≤ sizeLine; decide), fun R hR => ?_⟩
      have bl3 := bl.same (Same.new (o := .tup (rowV row0)) hR)
      have nR : R ≠ m := fun z => by
        rw [z, sm _ _ hm0] at hR
        cases hR
      have nD : R ≠ Dl := fun z => by
        rw [z, bl.2.1] at hR
        cases hR
      refine ⟨vs, bl3.2.1, ?_, ?_, vs ++ [.ref R], ?_⟩
      · rw [bl.len, List.length_map, List.length_replicate]
        exact small6 (by omega)
      · intro b u e
        rw [upd_ne (ne_of_none e hD)]
        exact same_new hR _ _ (sm _ _ e)
      · rw [List.replicate_succ', List.map_append]
        exact bl3.push (row_at nR upd_same) (row_at nD upd_same)
    · rintro H2 ⟨s2, vs, bl⟩
      rw [lua] at bl
      refine ⟨_, _, rfl, .inl ⟨SqL.of bl.2.1, fun q hq => ?_⟩⟩
      exact k q _ (Same.tr s0 (Same.tr s2 (same_new hq))) (bl.tup (s2 _ _ hm0) hq)
end
end C83

set_option Elab.async false
set_option maxRecDepth 100000
set_option maxHeartbeats 4000000
set_option linter.all false
namespace C83
open PySem L2 My M78
abbrev sLeft : Stmt := top 41
abbrev nLeft : List Str := ["_law_scripts_here", "_law_here", "_law_k"]
theorem scLeft : FnScope nLeft ["_law_scripts_here", "_law_here"] (defScope sLeft) := ⟨rfl, rfl, rfl, by decide +kernel, rfl, by decide +kernel, by decide +kernel⟩
section
variable {P : Program} {w : World} {K : PySem.W.Frag} {mg : Str → Option Value} {base : Heap}

/-- the scripts that have steps left -/
def spLeft : Sp := fun vs H Q _ => ∃ (m A B : Addr) (ss : List (List Wd)) (xs : List Row), vs = [.ref A, .ref B] ∧ At m H (.ref A) (scD ss) ∧ At m H (.ref B) (stD xs) ∧
  ss.length = xs.length ∧ xs.length ≤ 1000 ∧
  ∀ (q : Addr) (H' : Hp), H q = none → Same H H' → H' q = some (.lst ((waitL ss xs xs.length).map fun k : Nat => V.int (k : Int))) → Q (.ref q) H'
theorem pr_left (D : Df K mg "_law_left" sLeft ["_law_scripts_here", "_law_here"]) (T : Tx mg) (TR : mg "range" = none) : Pr P w K mg base 4 "_law_left" ["_law_scripts_here", "_law_here"] spLeft := by
  refine D.pr scLeft (fun vs H Q E h => ?_) (fun f cdv A outer s H vs Q E hr h => ?_)
  · obtain ⟨m, A, B, ss, xs, rfl, _⟩ := h
    rfl
  · obtain ⟨m, A, B, ss, xs, rfl, hA, hB, hle, hlen, k⟩ := h
    have nd := scLeft.nd
    refine ⟨_, (pss_one (ps_ret (pe_lc (own := [("_law_k", 2)]) (g := gName 2) (tt := tTest (tOp (rI0 fun i j => .bl (decide (i < j))) (tOp (rIxT K) (tOp (rIxT K) (tVar 1) (tVar 2)) (tC (.int 0))) (tCB (fun xs H Q => ∃ x n, xs = [x] ∧ LenV K x H n ∧ Q (.int n) H) (tCons (tOp (rIxT K) (tVar 0) (tVar 2)) tNil)))) (by rfl) nd (pi_range1 rfl TR (pa_cons (pe_callB call_len (by rfl) T.len PySem.boot_len (pa_cons (pv 0) pa_nil)) pa_nil))
  (blkOk_by (own := [("_law_k", 2)]) (N := nLeft) (sc := defScope sLeft) (by decide +kernel))
  (fun _ _ _ _ _ => pg_name (i := 2) nd rfl (Or.inl rfl) (Or.inr rfl)) (fun _ _ _ _ _ => pts_one (pt_cmpR op_lt (pe_ix ix_tup (pe_ix ix_tup (pv 1) (pv 2) (fun _ _ => rfl)) pe_int (fun _ _ => rfl)) (pe_callB call_len (by rfl) T.len PySem.boot_len (pa_cons (pe_ix ix_tup (pv 0) (pv 2) (fun _ _ => rfl)) pa_nil)) (nomark _)))
  (fun _ _ _ _ _ => (pv 2))))), ?_⟩
    obtain ⟨_, ua, ea, nA, hA1, aA⟩ := at_tup hA
    cases ea
    obtain ⟨_, ub, eb, nB, hB1, aB⟩ := at_tup hB
    cases eb
    have lub : ub.length = xs.length := by
      rw [aB.length, List.length_map]
    have lua : ua.length = xs.length := by
      rw [aA.length, List.length_map, hle]
    refine ⟨_, rfl, _, _, rfl, (Or.inr ⟨_, SqT.of hA1, rfl⟩), _, rfl, (by omega), (by omega), fun Dl hD => ?_⟩
    rw [show ((ua.length : Nat) : Int).toNat = xs.length by omega]
    refine lc_range (lo := 0) (n := xs.length) (fun i H2 => Same H H2 ∧ H2 Dl = some (.lst ((waitL ss xs i).map fun k : Nat => V.int (k : Int)))) ?_ ?_ ?_
    · exact ⟨same_new hD, upd_same⟩
    · rintro i H2 hi ⟨sm, hl⟩
      have hix : i < xs.length := hi
      have his : i < ss.length := by omega
      obtain ⟨vr, er, ar⟩ := all_get (i := i) (d := rowD xs[i]) aB (by rw [List.getElem?_map, List.getElem?_eq_getElem hix]; rfl)
      obtain ⟨R, rfl, nR, hR⟩ := row_of ar
      obtain ⟨vsc, es1, asc⟩ := all_get (i := i) (d := .tuple (ss[i].map fun v => .str (wS v))) aA (by rw [List.getElem?_map, List.getElem?_eq_getElem his]; rfl)
      obtain ⟨aS, us, rfl, nS, hS, aS2⟩ := at_tup asc
      have lus : us.length = ss[i].length := by
        rw [aS2.length, List.length_map]
      have hw : waitL ss xs (i + 1) = waitL ss xs i ++ (if xs[i].p < (ss[i].length : Int) then [i] else []) := by
        show waitL ss xs i ++ (match ss[i]?, xs[i]? with | some s, some x => (if x.p < (s.length : Int) then [i] else []) | _, _ => []) = _
        rw [List.getElem?_eq_getElem hix, List.getElem?_eq_getElem his]
      rw [show (0 : Int) + (i : Nat) = ((i : Nat) : Int) by omega]
      refine ⟨rfl, ?_⟩
      refine ⟨_, rfl, _, rfl, _, _, _, _, rfl, rfl, SqT.of (sm _ _ hB1), atI_nat er, ?_⟩
      refine ⟨_, _, _, _, rfl, rfl, SqT.of (sm _ _ hR), rfl, ?_⟩
      refine ⟨_, rfl, _, rfl, _, _, _, _, rfl, rfl, SqT.of (sm _ _ hA1), atI_nat es1, ?_⟩
      refine ⟨_, _, rfl, (Or.inr ⟨_, SqT.of (sm _ _ hS), rfl⟩), ?_⟩
      refine ⟨_, _, rfl, rfl, _, rfl, ?_⟩
      rw [lus]
      by_cases hij : xs[i].p < (ss[i].length : Int)
      · rw [decide_eq_true hij]
        refine iteT ⟨_, rfl, _, hl, ?_, ?_, ?_⟩
        · rw [List.length_map]
          have := waitL_len ss xs i
          exact small6 (by omega)
        · intro b u e
          rw [upd_ne (ne_of_none e hD)]
          exact sm _ _ e
        · rw [upd_same, hw, if_pos hij, List.map_append]
          rfl
      · rw [decide_eq_false hij]
        refine iteF ⟨sm, ?_⟩
        rw [hl, hw, if_neg hij, List.append_nil]
    · rintro H2 ⟨s2, hl⟩
      exact k _ _ hD s2 hl
end
end C83

set_option Elab.async false
set_option maxRecDepth 100000
set_option maxHeartbeats 4000000
set_option linter.all false
/-! Parts that give a known value and leave what stood as it was. -/
namespace My
open PySem PySem.Spec PyProof.Rows L2
/-- the expression gives v, what stood stands -/
def Gv (t : TE) (σ : L2.St) (H : Hp) (v : V) : Prop := ∀ Q : VK, (∀ H', Same H H' → Q v H') → t σ H Q
def Gt (t : TT) (σ : L2.St) (H : Hp) (b : Bool) : Prop := ∀ Q : Bool → Hp → Prop, (∀ H', Same H H' → Q b H') → t σ H Q
theorem Same.rfl' (H : Hp) : Same H H := fun _ _ e => e
theorem Same.tr' {H H1 H2 : Hp} (a : Same H H1) (b : Same H1 H2) : Same H H2 := fun x o e => b _ _ (a _ _ e)
theorem Gv.and {ta tb : TE} {σ : L2.St} {H : Hp} {a b : Bool} (h1 : Gv ta σ H (.bl a)) (h2 : ∀ H', Same H H' → Gv tb σ H' (.bl b)) : Gv (tAndV ta tb) σ H (.bl (a && b)) := fun Q k => h1 _ fun H1 s1 => ⟨a, rfl, by
  cases a
  · exact iteF (k _ s1)
  · exact iteT (h2 _ s1 _ fun H2 s2 => k _ (Same.tr' s1 s2))⟩
theorem Gv.or {ta tb : TE} {σ : L2.St} {H : Hp} {a b : Bool} (h1 : Gv ta σ H (.bl a)) (h2 : ∀ H', Same H H' → Gv tb σ H' (.bl b)) : Gv (tOrV ta tb) σ H (.bl (a || b)) := fun Q k => h1 _ fun H1 s1 => ⟨a, rfl, by
  cases a
  · exact iteF (h2 _ s1 _ fun H2 s2 => k _ (Same.tr' s1 s2))
  · exact iteT (k _ s1)⟩
theorem seq_asg_gv {te : TE} {g : TG} {r : TS} {D : Ends} {σ : L2.St} {H : Hp} {x : V} (h : Gv te σ H x) (k : ∀ H', Same H H' → g x σ H' (r D)) : tSeq (tAsg te g) r D σ H := h _ k
theorem asg_gv {te : TE} {g : TG} {D : Ends} {σ : L2.St} {H : Hp} {x : V} (h : Gv te σ H x) (k : ∀ H', Same H H' → g x σ H' D.nx) : tAsg te g D σ H := h _ k
theorem if_gt {c : TT} {t u : TS} {D : Ends} {σ : L2.St} {H : Hp} (b : Bool) (h : Gt c σ H b) (hT : b = true → ∀ H', Same H H' → t D σ H') (hF : b = false → ∀ H', Same H H' → u D σ H') : tIfS c t u D σ H := h _ fun H' s => (by
  cases b
  · exact iteF (hF rfl _ s)
  · exact iteT (hT rfl _ s))
theorem seq_if_gt {c : TT} {t u r : TS} {D : Ends} {σ : L2.St} {H : Hp} (b : Bool) (h : Gt c σ H b) (hT : b = true → ∀ H', Same H H' → t { D with nx := r D } σ H') (hF : b = false → ∀ H', Same H H' → u { D with nx := r D } σ H') : tSeq (tIfS c t u) r D σ H := if_gt b h hT hF
/-- a new tuple, a new list; the heap behind it by what stands in it -/
theorem new_tup {H : Hp} {xs : List V} {Q : VK} (hz : xs.length ≤ sizeLine) (k : ∀ p H', H p = none → Same H H' → H' p = some (.tup xs) → Q (.ref p) H') : xs.length ≤ sizeLine ∧ ∀ p, H p = none → Q (.ref p) (upd H p (.tup xs)) :=
  ⟨hz, fun p hp => k p _ hp (Same.new hp) upd_same⟩
theorem new_lst {H : Hp} {xs : List V} {Q : VK} (hz : xs.length ≤ sizeLine) (k : ∀ p H', H p = none → Same H H' → H' p = some (.lst xs) → Q (.ref p) H') : xs.length ≤ sizeLine ∧ ∀ p, H p = none → Q (.ref p) (upd H p (.lst xs)) :=
  ⟨hz, fun p hp => k p _ hp (Same.new hp) upd_same⟩
theorem Drw.same {H H' : Hp} {st c : Addr} {ns : List Int} (h : Drw H st c ns) (s : Same H H') : Drw H' st c ns := by
  obtain ⟨hc, n, v, b, h0, hs⟩ := h
  exact ⟨s _ _ hc, n, v, b, h0, s _ _ hs⟩
theorem Drw.nst {H : Hp} {st c p : Addr} {ns : List Int} (h : Drw H st c ns) (hp : H p = none) : p ≠ st := fun z => by
  obtain ⟨_, _, _, _, _, hs⟩ := h
  rw [z, hs] at hp
  cases hp
theorem Drw.at {H : Hp} {st c : Addr} {ns : List Int} (h : Drw H st c ns) : ∃ o, H st = some o := by
  obtain ⟨_, _, _, _, _, hs⟩ := h
  exact ⟨_, hs⟩
theorem But.tr' {p : Addr} {H H1 H2 : Hp} (a : But p H H1) (s : Same H1 H2) : But p H H2 := fun x o e n => s x o (a x o e n)
/-- what is new now was new before -/
theorem But.free {p q : Addr} {H H1 : Hp} (a : But p H H1) (n : q ≠ p) (h : H1 q = none) : H q = none := by
  cases e : H q with
  | none => rfl
  | some o =>
    rw [a q o e n] at h
    cases h
end My

set_option Elab.async false
set_option maxRecDepth 100000
set_option maxHeartbeats 4000000
set_option linter.all false
namespace C83
open PySem L2 My M78
abbrev sBehind : Stmt := top 38
abbrev nBehind : List Str := ["_law_word", "_law_opened", "_law_reads", "_law_lock", "_law_least"]
theorem scBehind : FnScope nBehind ["_law_word", "_law_opened", "_law_reads", "_law_lock"] (defScope sBehind) := ⟨rfl, rfl, rfl, by decide +kernel, rfl, by decide +kernel, by decide +kernel⟩

def bO (v : Wd) (o : Bool) : Bool := !isEn v && (o || isOp v)
def bR (v : Wd) (r : Bool) : Bool := !decide (v = .sto) && (r || decide (v = .sta))
def leastM : Wd → Int
  | .rea => 1 | .sta => 1 | .wri => 2 | .imm => 2 | .exc => 4 | _ => 0
def bL (v : Wd) (o r : Bool) (l : Int) : Int := if bO v o = true then max l (leastM v) else restL (bR v r)
def leastK : List (Key × V) := [(Sum.inr (Str.ofString "read"), .int 1), (Sum.inr (Str.ofString "start"), .int 1), (Sum.inr (Str.ofString "write"), .int 2), (Sum.inr (Str.ofString "immediate"), .int 2), (Sum.inr (Str.ofString "exclusive"), .int 4)]
theorem least_get (v : Wd) : (valV (mergeK [] leastK) (Sum.inr (wS v))).getD (.int 0) = .int (leastM v) := by cases v <;> decide +kernel
theorem in_op3 (v : Wd) : inV (.str (wS v)) [.str (Str.ofString "begin"), .str (Str.ofString "immediate"), .str (Str.ofString "exclusive")] = isOp v := in_op v
section
variable {P : Program} {w : World} {K : PySem.W.Frag} {mg : Str → Option Value} {base : Heap}

def spBehind : Sp := fun vs H Q _ => ∃ (v : Wd) (o r : Bool) (l : Int), vs = [.str (wS v), .bl o, .bl r, .int l] ∧
  ∀ (p : Addr) (H' : Hp), H p = none → Same H H' → H' p = some (.tup [.bl (bO v o), .bl (bR v r), .int (bL v o r l)]) → Q (.ref p) H'
theorem pr_behind (D : Df K mg "_law_behind" sBehind ["_law_word", "_law_opened", "_law_reads", "_law_lock"]) (T : Tx mg) (TM : mg "max" = none) : Pr P w K mg base 1 "_law_behind" ["_law_word", "_law_opened", "_law_reads", "_law_lock"] spBehind := by
  refine D.pr scBehind (fun vs H Q E h => ?_) (fun f cdv A outer s H vs Q E hr h => ?_)
  · obtain ⟨v, o, r, l, rfl, _⟩ := h
    rfl
  · obtain ⟨v, o, r, l, rfl, k⟩ := h
    have nd := scBehind.nd
    refine ⟨_, (pss_cons (ps_asg (pe_and (pe_cmpR op_notIn_seq (pv 0) (pe_tup (pa_cons pe_str (pa_cons pe_str pa_nil))) (by rfl)) (pe_one (pe_or (pv 1) (pe_one (pe_cmpR op_in_seq (pv 0) (pe_tup (pa_cons pe_str (pa_cons pe_str (pa_cons pe_str pa_nil)))) (by rfl)))))) (pg_name (i := 1) nd rfl (Or.inl rfl)))
      (pss_cons (ps_asg (pe_and (pe_cmpR op_ne (pv 0) pe_str (nomark _)) (pe_one (pe_or (pv 2) (pe_one (pe_cmpR op_eq (pv 0) pe_str (nomark _)))))) (pg_name (i := 2) nd rfl (Or.inl rfl)))
      (pss_cons (ps_if (pt_not (pt_val (pv 1)))
        (pss_one (ps_ret (pe_tup (pa_cons (pv 1) (pa_cons (pv 2) (pa_cons (pe_callTy call_int1 (by rfl) T.int (by decide +kernel) (pa_cons (pv 2) pa_nil)) pa_nil))))))
        pss_nil)
      (pss_cons (ps_asg (pe_disp (pps_cons pe_str pe_int (pps_cons pe_str pe_int (pps_cons pe_str pe_int (pps_cons pe_str pe_int (pps_cons pe_str pe_int pps_nil))))) (by rfl) (by rfl) (fun z => by cases z) (by decide)) (pg_name (i := 4) nd rfl (Or.inl rfl)))
      (pss_one (ps_ret (pe_tup (pa_cons (pv 1) (pa_cons (pv 2) (pa_cons (pe_callB (call_max2 rfl) (by rfl) TM (by decide +kernel) (pa_cons (pv 3) (pa_cons (pe_dget2 (hu_of hr) (pv 4) (pv 0) pe_int ⟨rfl, rfl, rfl, rfl⟩) pa_nil))) pa_nil)))))))))), ?_⟩
    refine seq_asg_gv (x := .bl (bO v o)) (Gv.and (fun Q' kk => ?_) (fun H1 s1 => Gv.or (fun Q' kk => ⟨_, rfl, kk _ (Same.rfl' _)⟩) (fun H2 s2 Q' kk => ?_))) ?_
    · refine ⟨_, rfl, (by show 2 ≤ sizeLine; decide), fun tp htp => ?_⟩
      refine ⟨_, _, rfl, .inr (SqT.of upd_same), rfl, rfl, ?_⟩
      rw [in_en v]
      exact kk _ (same_new htp)
    · refine ⟨_, rfl, (by show 3 ≤ sizeLine; decide), fun tp htp => ?_⟩
      refine ⟨_, _, rfl, .inr (SqT.of upd_same), rfl, rfl, ?_⟩
      rw [in_op v]
      exact kk _ (same_new htp)
    intro H1 s1
    refine seq_asg_gv (x := .bl (bR v r)) (Gv.and (fun Q' kk => ?_) (fun H1 s1 => Gv.or (fun Q' kk => ⟨_, rfl, kk _ (Same.rfl' _)⟩) (fun H2 s2 Q' kk => ?_))) ?_
    · refine ⟨_, rfl, rfl, ?_⟩
      rw [show decide (V.str (wS v) = V.str (Str.ofString "stop")) = decide (v = .sto) from eqW v .sto]
      exact kk _ (Same.rfl' _)
    · refine ⟨_, rfl, rfl, ?_⟩
      rw [show decide (V.str (wS v) = V.str (Str.ofString "start")) = decide (v = .sta) from eqW v .sta]
      exact kk _ (Same.rfl' _)
    intro H2 s2
    have s3 : Same H H2 := Same.tr s1 s2
    refine seq_if_tv (!bO v o) (fun K' kk => ⟨_, rfl, _, rfl, kk⟩) (fun hb => ?_) (fun hb => ?_)
    · refine ⟨_, rfl, _, rfl, _, rfl, .inr ⟨_, rfl, (by show 3 ≤ sizeLine; decide), fun p hp => ?_⟩⟩
      refine k p _ (Same.free s3 hp) (Same.tr s3 (same_new hp)) ?_
      rw [upd_same]
      have hb2 : bO v o = false := by simpa using hb
      unfold bL
      rw [hb2]
      rfl
    · dsimp only [tNext]
      have hb2 : bO v o = true := by simpa using hb
      intro dp hdp
      refine ⟨upd_same, leastK, rfl, (by show 5 ≤ 15; decide), ?_⟩
      have s4 : Same H2 (upd (upd H2 dp (.dK [])) dp (.dK (mergeK [] leastK))) := fun b u e => by
        rw [upd_ne (ne_of_none e hdp), upd_ne (ne_of_none e hdp)]
        exact e
      refine ⟨_, rfl, _, rfl, _, rfl, _, rfl, dp, rfl, .inl ⟨_, Rd.of upd_same⟩, _, rfl, _, DGet.k (k := Sum.inr (wS v)) upd_same, ?_⟩
      rw [least_get v]
      refine ⟨_, _, rfl, (by show 3 ≤ sizeLine; decide), fun p hp => ?_⟩
      have s5 := Same.tr s3 s4
      refine k p _ (Same.free s5 hp) (Same.tr s5 (same_new hp)) ?_
      rw [upd_same, max2]
      unfold bL
      rw [if_pos hb2]
end
end C83

set_option Elab.async false
set_option maxRecDepth 100000
set_option maxHeartbeats 4000000
set_option linter.all false
namespace C83
open PySem L2 My M78
abbrev sAfter : Stmt := top 39
abbrev nAfter : List Str := ["_law_scripts_here", "_law_here", "_law_at", "_law_place", "_law_opened", "_law_reads", "_law_lock", "_law_word", "_law_top", "_law_held", "_law_k", "_law_row"]
theorem scAfter : FnScope nAfter ["_law_scripts_here", "_law_here", "_law_at"] (defScope sAfter) := ⟨rfl, rfl, rfl, by decide +kernel, rfl, by decide +kernel, by decide +kernel⟩

def afterM (v : Wd) (x : Row) (t : Int) : Row × Bool :=
  if refM v x.o x.l t = true then (⟨x.p, x.o, x.r, if v = .com then max x.l 3 else x.l⟩, true) else (⟨x.p + 1, bO v x.o, bR v x.r, bL v x.o x.r x.l⟩, false)
theorem foldl_max (l : List Int) : ∀ a, a ≤ l.foldl max a ∧ (∀ n ∈ l, n ≤ l.foldl max a) ∧ (l.foldl max a = a ∨ l.foldl max a ∈ l) := by
  induction l with
  | nil => exact fun a => ⟨Int.le_refl _, fun n hn => (by cases hn), .inl rfl⟩
  | cons b r ih =>
    intro a
    obtain ⟨h1, h2, h3⟩ := ih (max a b)
    rw [List.foldl_cons]
    refine ⟨by omega, fun n hn => ?_, ?_⟩
    · rcases List.mem_cons.mp hn with rfl | h
      · omega
      · exact h2 n h
    · rcases h3 with h3 | h3
      · rw [h3]
        rcases Int.le_total a b with h | h
        · exact .inr (List.mem_cons.mpr (.inl (by omega)))
        · exact .inl (by omega)
      · exact .inr (List.mem_cons_of_mem _ h3)
theorem top_is {l : List Int} {m : Int} (h0 : ∀ n ∈ l, 0 ≤ n) (h1 : m ∈ (0 : Int) :: l) (h2 : ∀ y ∈ (0 : Int) :: l, y ≤ m) : m = topOf 0 l := by
  cases l with
  | nil => exact List.mem_singleton.mp h1
  | cons a r =>
    obtain ⟨q1, q2, q3⟩ := foldl_max r a
    show m = r.foldl max a
    have e1 : m ≤ r.foldl max a := by
      rcases List.mem_cons.mp h1 with rfl | h
      · have := h0 a (List.mem_cons_self ..)
        omega
      · rcases List.mem_cons.mp h with rfl | h
        · exact q1
        · exact q2 _ h
    have e2 : r.foldl max a ≤ m := by
      rcases q3 with q3 | q3
      · rw [q3]
        exact h2 _ (List.mem_cons_of_mem _ (List.mem_cons_self ..))
      · exact h2 _ (List.mem_cons_of_mem _ (List.mem_cons_of_mem _ q3))
    omega
theorem othL_mem (xs : List Row) (j : Nat) : ∀ n y, y ∈ othL xs j n → ∃ x ∈ xs, x.l = y
  | 0, y, h => nomatch h
  | n + 1, y, h => by
    rw [othL_succ] at h
    rcases List.mem_append.mp h with h | h
    · exact othL_mem xs j n y h
    · split at h
      · cases h
      · split at h
        · rename_i x hx
          exact ⟨x, List.mem_of_getElem? hx, (List.mem_singleton.mp h).symm⟩
        · cases h
section
variable {P : Program} {w : World} {K : PySem.W.Frag} {mg : Str → Option Value} {base : Heap}

/-- a state with one row put in: here[:at] + (row,) + here[at + 1:] -/
theorem splice {m B : Addr} {σ : L2.St} {H : Hp} {ub : List V} {xs : List Row} {j : Nat} {tR : TE} {o : HO} {row : Row} {Q : VK} (h1 : σ[1]? = some (some (.ref B))) (h2 : σ[2]? = some (some (.int (j : Int)))) (hm : H m = some o) (nB : B ≠ m) (hB1 : H B = some (.tup ub)) (aB : AtAll m H ub (xs.map rowD))
    (hj : j < xs.length) (hlen : xs.length ≤ 1000) (hR : ∀ H1, Same H H1 → ∀ Q : VK, (∀ q H2, Same H1 H2 → q ≠ m → H2 q = some (.tup (rowV row)) → Q (.ref q) H2) → tR σ H1 Q)
    (k : ∀ p H', Same H H' → At m H' (.ref p) (stD (xs.set j row)) → Q (.ref p) H') :
    tOp (rCatA K) (tOp (rCatA K) (tSl (rSlA K) (tVar 1) tNoPart (tPart (tVar 2))) (tTup (tCons tR tNil))) (tSl (rSlA K) (tVar 1) (tPart (tOp (rI0 fun i j => .int (i + j)) (tVar 2) (tC (.int 1)))) tNoPart) σ H Q := by
  have lub : ub.length = xs.length := by
    rw [aB.length, List.length_map]
  have w1 : ¬ (HT.sIx ub.length 0 none = 0 ∧ HT.sIx ub.length ub.length (some (j : Int)) = ub.length) := fun z => by
    have := z.2
    rw [HT.sIx_nat] at this
    omega
  refine ⟨_, h1, _, h2, _, rfl, _, _, rfl, SqT.of hB1, fun z => absurd z w1, fun _ p1 hp1 => ?_⟩
  have c1 : cutV ub none (some (j : Int)) = ub.take j := by
    show (ub.drop 0).take (HT.sIx ub.length ub.length (some (j : Int)) - 0) = _
    rw [HT.sIx_nat, List.drop_zero, Nat.sub_zero, Nat.min_eq_left (by omega)]
  rw [c1]
  have s4 := same_new (o := .tup (ub.take j)) hp1
  refine hR _ s4 _ fun q H2 s42 nq hq => ⟨(by show 1 ≤ sizeLine; decide), fun p2 hp2 => ?_⟩
  have s5 := same_new (o := .tup [.ref q]) hp2
  have sa : Same H H2 := Same.tr s4 s42
  have hm4 := sa _ _ hm
  have n1 : p1 ≠ m := fun z => by
    rw [z, hm] at hp1
    cases hp1
  have n2 : p2 ≠ m := fun z => by
    rw [z, hm4] at hp2
    cases hp2
  show rCatA K _ _ _ _
  refine cat_any (m := m) (a := p1) (b := p2) (s5 _ _ (s42 _ _ upd_same)) upd_same n1 n2 (s5 _ _ hm4) (by rw [List.length_take]; show _ + 1 ≤ _; exact Nat.le_of_lt (small6 (by omega))) (fun p3 H5 n3 s6 h3 => ?_)
  have sm6 : Same H H5 := Same.tr (Same.tr sa s5) s6
  have hB5 := sm6 _ _ hB1
  have w2 : ¬ (HT.sIx ub.length 0 (some ((j + 1 : Nat) : Int)) = 0 ∧ HT.sIx ub.length ub.length none = ub.length) := fun z => by
    have := z.1
    rw [HT.sIx_nat] at this
    omega
  refine ⟨_, h1, _, h2, _, _, rfl, rfl, _, rfl, _, _, rfl, SqT.of hB5, fun z => absurd z w2, fun _ p4 hp4 => ?_⟩
  have c2 : cutV ub (some ((j : Int) + 1)) none = ub.drop (j + 1) := by
    show (ub.drop (HT.sIx ub.length 0 (some ((j + 1 : Nat) : Int)))).take (ub.length - HT.sIx ub.length 0 (some ((j + 1 : Nat) : Int))) = _
    rw [HT.sIx_nat, Nat.min_eq_left (by omega), List.take_of_length_le (by rw [List.length_drop]; omega)]
  rw [c2]
  have s7 := same_new (o := .tup (ub.drop (j + 1))) hp4
  have n4 : p4 ≠ m := fun z => by
    rw [z, sm6 _ _ hm] at hp4
    cases hp4
  show rCatA K _ _ _ _
  refine cat_any (m := m) (a := p3) (b := p4) (s7 _ _ h3) upd_same n3 n4 (s7 _ _ (sm6 _ _ hm)) (by rw [List.length_append, List.length_take, List.length_drop]; show _ + 1 + _ ≤ _; exact Nat.le_of_lt (small6 (by omega))) (fun p5 H6 n5 s8 h5 => ?_)
  have sm8 : Same H H6 := Same.tr (Same.tr sm6 s7) s8
  refine k p5 _ sm8 (.tup n5 h5 ?_)
  have hq6 : H6 q = some (.tup (rowV row)) := s8 _ _ (s7 _ _ (s6 _ _ (s5 _ _ hq)))
  have aB6 := aB.mono (Same.but (m := m) sm8)
  have e9 : (xs.set j row).map rowD = ((xs.map rowD).take j ++ [rowD row]) ++ (xs.map rowD).drop (j + 1) := by
    rw [List.set_eq_take_append_cons_drop, if_pos hj, List.map_append, List.map_cons, List.map_take, List.map_drop, List.append_assoc]
    rfl
  rw [e9]
  exact all_app (all_app (all_take j aB6) (.cons (row_at nq hq6) .nil)) (all_drop (j + 1) aB6)
/-- the law's own step of script number j -/
def spAfter : Sp := fun vs H Q _ => ∃ (m A B : Addr) (o : HO) (ss : List (List Wd)) (xs : List Row) (j p : Nat) (sc : List Wd) (x : Row) (v : Wd), H m = some o ∧ vs = [.ref A, .ref B, .int (j : Int)] ∧ At m H (.ref A) (scD ss) ∧ At m H (.ref B) (stD xs) ∧
  xs.length ≤ 1000 ∧ ss[j]? = some sc ∧ xs[j]? = some x ∧ x.p = (p : Int) ∧ sc[p]? = some v ∧ (∀ y ∈ xs, 0 ≤ y.l) ∧
  ∀ (q : Addr) (H' : Hp), Same H H' → At m H' (.ref q) (.tuple [stD (xs.set j (afterM v x (topM xs j)).1), .bool (afterM v x (topM xs j)).2]) → Q (.ref q) H'
theorem pr_after (D : Df K mg "_law_after" sAfter ["_law_scripts_here", "_law_here", "_law_at"]) (T : Tx mg) (TM : mg "max" = none) (PR : Pr P w K mg base 1 "_law_refused" ["_law_word", "_law_opened", "_law_lock", "_law_top"] spRefused)
    (PB : Pr P w K mg base 1 "_law_behind" ["_law_word", "_law_opened", "_law_reads", "_law_lock"] spBehind) : Pr P w K mg base 2 "_law_after" ["_law_scripts_here", "_law_here", "_law_at"] spAfter := by
  refine D.pr scAfter (fun vs H Q E h => ?_) (fun f cdv A outer s H vs Q E hr h => ?_)
  · obtain ⟨m, A, B, o, ss, xs, j, p, sc, x, v, hm, rfl, _⟩ := h
    rfl
  · obtain ⟨m, A, B, o, ss, xs, j, p, sc, x, v, hm, rfl, hA, hB, hlen, hsc, hx, hp, hv, h0, k⟩ := h
    have nd := scAfter.nd
    refine ⟨_, (pss_cons (ps_asg (pe_ix ix_tup (pv 1) (pv 2) (fun _ _ => rfl)) (pg_tup rfl (pgs_cons (pg_name (i := 3) nd rfl (Or.inl rfl)) (pgs_cons (pg_name (i := 4) nd rfl (Or.inl rfl)) (pgs_cons (pg_name (i := 5) nd rfl (Or.inl rfl)) (pgs_cons (pg_name (i := 6) nd rfl (Or.inl rfl)) pgs_nil))))))
      (pss_cons (ps_asg (pe_ix ix_tup (pe_ix ix_tup (pv 0) (pv 2) (fun _ _ => rfl)) (pv 3) (fun _ _ => rfl)) (pg_name (i := 7) nd rfl (Or.inl rfl)))
      (pss_cons (ps_asg (pe_callB (cr_max rfl) (by rfl) TM (by decide +kernel) (pa_cons (pe_op op_cat (pe_lst (pa_cons pe_int pa_nil)) (pe_lc (own := [("_law_k", 10), ("_law_row", 11)]) (g := gTup K 2 (gCons (gName 10) (gCons (gName 11) gNil))) (te := tOp (rIxT K) (tVar 11) (tC (.int 3))) (by rfl) nd (pi_enumT (by rfl) T.enumerate (pa_cons (pv 1) pa_nil))
  (blkOk_by (own := [("_law_k", 10), ("_law_row", 11)]) (N := nAfter) (sc := defScope sAfter) (by decide +kernel))
  (fun _ _ _ _ _ => pg_tup rfl (pgs_cons (pg_name (i := 10) nd rfl (Or.inl rfl) (Or.inr rfl)) (pgs_cons (pg_name (i := 11) nd rfl (Or.inl rfl) (Or.inr rfl)) pgs_nil))) (fun _ _ _ _ _ => pts_one (pt_cmpR op_ne (pv 10) (pv 2) (nomark _)))
  (fun _ _ _ _ _ => (pe_ix ix_tup (pv 11) pe_int (fun _ _ => rfl))))) pa_nil)) (pg_name (i := 8) nd rfl (Or.inl rfl)))
      (pss_cons (ps_if (pt_val (pe_callP PR hr (by rfl) (pa_cons (pv 7) (pa_cons (pv 4) (pa_cons (pv 6) (pa_cons (pv 8) pa_nil))))))
        (pss_cons (ps_asg (pe_ifExp (pt_cmpR op_eq (pv 7) pe_str (nomark _)) (pe_callB (call_max2 rfl) (by rfl) TM (by decide +kernel) (pa_cons (pv 6) (pa_cons pe_int pa_nil))) (pv 6)) (pg_name (i := 9) nd rfl (Or.inl rfl)))
        (pss_one (ps_ret (pe_tup (pa_cons (pe_op op_catA (pe_op op_catA (pe_slice sl_tupA (pv 1) po_none (po_some (pv 2))) (pe_tup (pa_cons (pe_tup (pa_cons (pv 3) (pa_cons (pv 4) (pa_cons (pv 5) (pa_cons (pv 9) pa_nil))))) pa_nil))) (pe_slice sl_tupA (pv 1) (po_some (pe_op op_add (pv 2) pe_int)) po_none)) (pa_cons pe_bl pa_nil))))))
        pss_nil)
      (pss_one (ps_ret (pe_tup (pa_cons (pe_op op_catA (pe_op op_catA (pe_slice sl_tupA (pv 1) po_none (po_some (pv 2))) (pe_tup (pa_cons (pe_op op_catA (pe_tup (pa_cons (pe_op op_add (pv 3) pe_int) pa_nil)) (pe_callP PB hr (by rfl) (pa_cons (pv 7) (pa_cons (pv 4) (pa_cons (pv 5) (pa_cons (pv 6) pa_nil)))))) pa_nil))) (pe_slice sl_tupA (pv 1) (po_some (pe_op op_add (pv 2) pe_int)) po_none)) (pa_cons pe_bl pa_nil))))))))), ?_⟩
    obtain ⟨_, ua, ea, nA, hA1, aA⟩ := at_tup hA
    cases ea
    obtain ⟨_, ub, eb, nB, hB1, aB⟩ := at_tup hB
    cases eb
    have lub : ub.length = xs.length := by
      rw [aB.length, List.length_map]
    have hj : j < xs.length := (List.getElem?_eq_some_iff.mp hx).1
    obtain ⟨vsc, es1, asc⟩ := all_get (i := j) (d := .tuple (sc.map fun v => .str (wS v))) aA (by rw [List.getElem?_map, hsc]; rfl)
    obtain ⟨aS, us, rfl, nS, hS, aS2⟩ := at_tup asc
    obtain ⟨vv, ev1, av⟩ := all_get (i := p) (d := .str (wS v)) aS2 (by rw [List.getElem?_map, hv]; rfl)
    cases av
    obtain ⟨vR, er1, aR⟩ := all_get (i := j) (d := rowD x) aB (by rw [List.getElem?_map, hx]; rfl)
    obtain ⟨R, rfl, nR, hR⟩ := row_of aR
    have hp2 : rowV x = [.int (p : Int), .bl x.o, .bl x.r, .int x.l] := by
      unfold rowV
      rw [hp]
    have hR2 : H R = some (.tup [.int (p : Int), .bl x.o, .bl x.r, .int x.l]) := by
      rw [← hp2]
      exact hR
    refine ⟨_, rfl, _, rfl, _, _, _, _, rfl, rfl, SqT.of hB1, atI_nat er1, ?_⟩
    refine ⟨_, _, rfl, SqT.of hR2, rfl, _, _, rfl, _, _, rfl, _, _, rfl, _, _, rfl, rfl, ?_⟩
    refine ⟨_, rfl, _, rfl, _, _, _, _, rfl, rfl, SqT.of hA1, atI_nat es1, ?_⟩
    refine ⟨_, rfl, _, _, _, _, rfl, rfl, SqT.of hS, atI_nat ev1, ?_⟩
    refine ⟨(by show 1 ≤ sizeLine; decide), fun Z hZ => ?_⟩
    have sZ := same_new (o := .lst [.int 0]) hZ
    refine ⟨_, rfl, _, _, rfl, SqT.of (sZ _ _ hB1), fun Dl hD => ?_⟩
    refine lc_it (walk_enumT (xs := ub)) (fun i H2 => Same (upd H Z (.lst [.int 0])) H2 ∧ H2 Dl = some (.lst ((othL xs j i).map V.int))) ?_ ?_ ?_ ?_
    · exact ⟨same_new hD, upd_same⟩
    · exact fun i H2 _ q => SqT.of (q.1 _ _ (sZ _ _ hB1))
    · rintro i y H2 H3 hi ⟨sm, hl⟩ ⟨T2, i', vr, rfl, hT2, rfl, ei, er⟩
      obtain rfl : V.int (i : Nat) = i' := Option.some.inj ei
      have hix : i < xs.length := by omega
      obtain ⟨dr, e1, ar⟩ := aB.get er
      rw [List.getElem?_map, List.getElem?_eq_getElem hix] at e1
      cases e1
      obtain ⟨R, rfl, nR, hR⟩ := row_of ar
      have sT : Same (upd H Z (.lst [.int 0])) (upd H2 T2 (.tup [.int (i : Nat), .ref R])) := Same.tr sm (same_new hT2)
      have nDT : Dl ≠ T2 := ne_of_none hl hT2
      have hl3 : (upd H2 T2 (.tup [.int (i : Nat), .ref R])) Dl = some (.lst ((othL xs j i).map V.int)) := by
        rw [upd_ne nDT]
        exact hl
      refine ⟨_, _, rfl, SqT.of upd_same, rfl, _, _, rfl, _, _, rfl, rfl, rfl, ?_⟩
      refine ⟨_, rfl, _, rfl, rfl, _, rfl, ?_⟩
      by_cases hij : i = j
      · rw [decide_eq_true (show V.int ((i : Nat) : Int) = V.int ((j : Nat) : Int) by rw [hij])]
        refine iteF ⟨sT, ?_⟩
        rw [hl3, othL_succ, if_pos hij, List.append_nil]
      · rw [decide_eq_false (show ¬ V.int ((i : Nat) : Int) = V.int ((j : Nat) : Int) from fun z => hij (by have := V.int.inj z; omega))]
        refine iteT ⟨_, rfl, R, _, _, _, rfl, rfl, SqT.of (sT _ _ (sZ _ _ hR)), rfl, _, hl3, ?_, ?_, ?_⟩
        · rw [List.length_map]
          have := othL_len xs j i
          exact small6 (by omega)
        · intro b u e
          rw [upd_ne (ne_of_none e hD)]
          exact sT _ _ e
        · rw [upd_same, othL_succ, if_neg hij, List.getElem?_eq_getElem hix, List.map_append]
          rfl
    · rintro H2 ⟨s2, hl⟩
      rw [lub] at hl
      have hlo := othL_len xs j xs.length
      refine ⟨_, _, _, _, rfl, rfl, s2 _ _ upd_same, hl, (by rw [List.length_map]; show 1 + _ ≤ _; exact Nat.le_of_lt (small6 (by omega))), fun p9 hp9 => ?_⟩
      refine ⟨_, (0 : Int) :: othL xs j xs.length, rfl, SqL.of upd_same, (by simp), fun tp ht1 ht2 => ?_⟩
      obtain rfl : tp = topM xs j := top_is (fun n hn => (othL_mem xs j _ n hn).elim fun y hy => hy.2 ▸ h0 y hy.1) ht1 ht2
      have sm := Same.tr sZ (Same.tr s2 (same_new (o := .lst ([.int 0] ++ (othL xs j xs.length).map V.int)) hp9))
      refine ⟨_, rfl, _, rfl, _, rfl, _, rfl, v, x.o, x.l, topM xs j, rfl, fun H3 s3 => ?_⟩
      have sm3 : Same H H3 := Same.tr sm s3
      have hm3 := sm3 _ _ hm
      unfold afterM at k
      refine ⟨_, rfl, ?_⟩
      refine ite2 (fun hb => ?_) (fun hb => ?_)
      · rw [if_pos hb] at k
        refine seq_asg_tv (.int (if v = .com then max x.l 3 else x.l)) (fun Q' kk => ?_) ?_
        · refine ⟨_, rfl, rfl, _, rfl, ?_⟩
          rw [show decide (V.str (wS v) = V.str (Str.ofString "commit")) = decide (v = .com) from eqW v .com]
          by_cases hc : v = .com
          · rw [decide_eq_true hc]
            rw [if_pos hc, ← max2] at kk
            exact iteT ⟨_, rfl, _, _, rfl, kk⟩
          · rw [decide_eq_false hc]
            rw [if_neg hc] at kk
            exact iteF ⟨_, rfl, kk⟩
        · refine splice (m := m) (B := B) (row := ⟨x.p, x.o, x.r, if v = .com then max x.l 3 else x.l⟩) rfl rfl hm3 nB (sm3 _ _ hB1) (aB.mono (Same.but sm3)) hj hlen (fun H4 s4 Q' kk => ?_) (fun p H' s' a' => ?_)
          · refine ⟨_, rfl, _, rfl, _, rfl, _, rfl, (by show 4 ≤ sizeLine; decide), fun q hq => ?_⟩
            refine kk q _ (same_new hq) (fun z => by rw [z, s4 _ _ hm3] at hq; cases hq) ?_
            rw [upd_same, ← hp]
            rfl
          · refine ⟨(by show 2 ≤ sizeLine; decide), fun q hq => ?_⟩
            have s'' := Same.tr sm3 s'
            refine k q _ (Same.tr s'' (same_new hq)) (.tup (fun z => by rw [z, s'' _ _ hm] at hq; cases hq) upd_same (.cons (a'.mono (Same.but (same_new hq))) (.cons (.bl _) .nil)))
      · rw [if_neg hb] at k
        refine splice (m := m) (B := B) (row := ⟨x.p + 1, bO v x.o, bR v x.r, bL v x.o x.r x.l⟩) rfl rfl hm3 nB (sm3 _ _ hB1) (aB.mono (Same.but sm3)) hj hlen (fun H4 s4 Q' kk => ?_) (fun p H' s' a' => ?_)
        · refine ⟨_, rfl, _, _, rfl, rfl, (by show 1 ≤ sizeLine; decide), fun q1 hq1 => ?_⟩
          have s5 := same_new (o := .tup [.int ((p : Int) + 1)]) hq1
          refine ⟨_, rfl, _, rfl, _, rfl, _, rfl, v, x.o, x.r, x.l, rfl, fun q2 H5 nq2 s6 hq2 => ?_⟩
          refine cat_any (m := m) (a := q1) (b := q2) (s6 _ _ upd_same) hq2 (fun z => by rw [z, s4 _ _ hm3] at hq1; cases hq1) (fun z => by rw [z, s5 _ _ (s4 _ _ hm3)] at nq2; cases nq2) (s6 _ _ (s5 _ _ (s4 _ _ hm3))) (by show 1 + 3 ≤ sizeLine; decide) (fun p3 H6 n3 s7 h3 => ?_)
          refine kk p3 _ (Same.tr s5 (Same.tr s6 s7)) n3 ?_
          rw [h3, ← hp]
          rfl
        · refine ⟨(by show 2 ≤ sizeLine; decide), fun q hq => ?_⟩
          have s'' := Same.tr sm3 s'
          refine k q _ (Same.tr s'' (same_new hq)) (.tup (fun z => by rw [z, s'' _ _ hm] at hq; cases hq) upd_same (.cons (a'.mono (Same.but (same_new hq))) (.cons (.bl _) .nil)))
end
end C83

set_option Elab.async false
set_option maxRecDepth 100000
set_option maxHeartbeats 4000000
set_option linter.all false
namespace C83
open PySem L2 My M78

/-- what holds of a row of the script sc at every state that can be reached -/
def RI (sc : List Wd) (x : Row) : Prop := ∃ p : Nat, x.p = (p : Int) ∧ p ≤ sc.length ∧ x.o = (flg sc p).1 ∧ x.r = (flg sc p).2 ∧ 0 ≤ x.l ∧ x.l ≤ 4 ∧ (x.o = false → x.l = restL x.r)
/-- the four kinds of another's lock -/
theorem t4 (t : Int) : (¬ 1 ≤ t ∧ ¬ 2 ≤ t ∧ ¬ 3 ≤ t) ∨ (1 ≤ t ∧ ¬ 2 ≤ t ∧ ¬ 3 ≤ t) ∨ (1 ≤ t ∧ 2 ≤ t ∧ ¬ 3 ≤ t) ∨ (1 ≤ t ∧ 2 ≤ t ∧ 3 ≤ t) := by omega
theorem lt3 (t : Int) : (2 < t) = (3 ≤ t) := propext (by omega)
theorem lt2' (t : Int) : (1 < t) = (2 ≤ t) := propext (by omega)
theorem lt1 (t : Int) : (0 < t) = (1 ≤ t) := propext (by omega)
theorem l5 {l : Int} (h0 : 0 ≤ l) (h4 : l ≤ 4) : l = 0 ∨ l = 1 ∨ l = 2 ∨ l = 3 ∨ l = 4 := by omega
theorem after_eq {v : Wd} {x : Row} {t : Int} (h0 : 0 ≤ x.l) (h4 : x.l ≤ 4) (hr : x.o = false → x.l = restL x.r) (ok : okW v x.o x.r = true) : afterM v x t = triedM v x t := by
  obtain ⟨p, o, r, l⟩ := x
  dsimp only at h0 h4 hr ok
  cases o
  · have hl := hr rfl
    subst hl
    clear hr h0 h4
    rcases t4 t with ⟨a, b, c⟩ | ⟨a, b, c⟩ | ⟨a, b, c⟩ | ⟨a, b, c⟩ <;> cases v <;> cases r <;> first | (exfalso; revert ok; decide) | (
      clear ok
      simp [afterM, triedM, refM, isOp, isEn, isRs, isRsw, openL, workL, endL, bO, bR, bL, leastM, restL, lt3, lt2', lt1, a, b, c] <;> first | rfl | decide | omega)
  · clear hr
    rcases l5 h0 h4 with rfl | rfl | rfl | rfl | rfl <;> clear h0 h4 <;> rcases t4 t with ⟨a, b, c⟩ | ⟨a, b, c⟩ | ⟨a, b, c⟩ | ⟨a, b, c⟩ <;> cases v <;> cases r <;> first | (exfalso; revert ok; decide) | (
      clear ok
      simp [afterM, triedM, refM, isOp, isEn, isRs, isRsw, openL, workL, endL, bO, bR, bL, leastM, restL, lt3, lt2', lt1, a, b, c] <;> first | rfl | decide | omega)
theorem tried_row {v : Wd} {x : Row} {t : Int} (h0 : 0 ≤ x.l) (h4 : x.l ≤ 4) (hr : x.o = false → x.l = restL x.r) (ok : okW v x.o x.r = true) :
    ((triedM v x t).1.p = x.p ∧ (triedM v x t).1.o = x.o ∧ (triedM v x t).1.r = x.r ∨ (triedM v x t).1.p = x.p + 1 ∧ (triedM v x t).1.o = opB v x.o ∧ (triedM v x t).1.r = rdB v x.r) ∧
    0 ≤ (triedM v x t).1.l ∧ (triedM v x t).1.l ≤ 4 ∧ ((triedM v x t).1.o = false → (triedM v x t).1.l = restL (triedM v x t).1.r) := by
  obtain ⟨p, o, r, l⟩ := x
  dsimp only at h0 h4 hr ok
  cases o
  · have hl := hr rfl
    subst hl
    clear hr h0 h4
    rcases t4 t with ⟨a, b, c⟩ | ⟨a, b, c⟩ | ⟨a, b, c⟩ | ⟨a, b, c⟩ <;> cases v <;> cases r <;> first | (exfalso; revert ok; decide) | (
      clear ok
      simp [triedM, isOp, isEn, isRs, isRsw, openL, workL, endL, opB, rdB, restL, a, b, c] <;> first | rfl | decide | omega)
  · clear hr
    rcases l5 h0 h4 with rfl | rfl | rfl | rfl | rfl <;> clear h0 h4 <;> rcases t4 t with ⟨a, b, c⟩ | ⟨a, b, c⟩ | ⟨a, b, c⟩ | ⟨a, b, c⟩ <;> cases v <;> cases r <;> first | (exfalso; revert ok; decide) | (
      clear ok
      simp [triedM, isOp, isEn, isRs, isRsw, openL, workL, endL, opB, rdB, restL, a, b, c] <;> first | rfl | decide | omega)
theorem flg_succ {sc : List Wd} {p : Nat} {v : Wd} (h : sc[p]? = some v) : flg sc (p + 1) = (opB v (flg sc p).1, rdB v (flg sc p).2) := by
  show (match sc[p]? with | some v => (opB v (flg sc p).1, rdB v (flg sc p).2) | none => flg sc p) = _
  rw [h]
theorem RI.step {sc : List Wd} {x : Row} {p : Nat} {v : Wd} {t : Int} (h : RI sc x) (ok : okScr sc) (hp : x.p = (p : Int)) (hv : sc[p]? = some v) : afterM v x t = triedM v x t ∧ RI sc (triedM v x t).1 := by
  obtain ⟨p', e, hle, ho, hr, h0, h4, hl⟩ := h
  obtain rfl : p' = p := by omega
  have okv := ok.2 _ _ hv
  rw [← ho, ← hr] at okv
  refine ⟨after_eq h0 h4 hl okv, ?_⟩
  obtain ⟨h1, h2, h3, h5⟩ := tried_row (t := t) h0 h4 hl okv
  have hlt : p' < sc.length := (List.getElem?_eq_some_iff.mp hv).1
  rcases h1 with ⟨a, b, c⟩ | ⟨a, b, c⟩
  · exact ⟨p', a.trans hp, hle, b.trans ho, c.trans hr, h2, h3, h5⟩
  · refine ⟨p' + 1, by rw [a, hp]; rfl, hlt, ?_, ?_, h2, h3, h5⟩
    · rw [b, flg_succ hv, ho]
    · rw [c, flg_succ hv, hr]
/-- what holds of a state -/
def SI (ss : List (List Wd)) (xs : List Row) : Prop := Paired RI ss xs
theorem RI.zero (sc : List Wd) : RI sc row0 := ⟨0, rfl, Nat.zero_le _, rfl, rfl, Int.le_refl _, by decide, fun _ => rfl⟩
theorem SI.zero : ∀ ss : List (List Wd), SI ss (List.replicate ss.length row0)
  | [] => .nil
  | sc :: r => .cons (RI.zero sc) (SI.zero r)
theorem SI.get {ss : List (List Wd)} : ∀ {xs : List Row} {j : Nat} {sc : List Wd} {x : Row}, SI ss xs → ss[j]? = some sc → xs[j]? = some x → RI sc x := by
  intro xs j sc x h e1 e2
  obtain ⟨sc', e3, h2⟩ := paired_get h e2
  rw [e1] at e3
  cases e3
  exact h2
theorem paired_set {α β : Type} {R : α → β → Prop} : ∀ {xs : List α} {ys : List β} {i : Nat} {x : α} {y : β}, Paired R xs ys → xs[i]? = some x → R x y → Paired R xs (ys.set i y)
  | _, _, _, _, _, .nil, e, _ => by simp at e
  | _, _, 0, _, _, .cons h q, e, r => by
    simp at e
    subst e
    exact .cons r q
  | _, _, i + 1, _, _, .cons h q, e, r => .cons h (paired_set (i := i) q (by simpa using e) r)
theorem SI.set {ss : List (List Wd)} {xs : List Row} {j : Nat} {sc : List Wd} {x : Row} (h : SI ss xs) (e1 : ss[j]? = some sc) (r : RI sc x) : SI ss (xs.set j x) := paired_set h e1 r
theorem SI.nonneg {ss : List (List Wd)} {xs : List Row} (h : SI ss xs) : ∀ y ∈ xs, 0 ≤ y.l := fun y hy => by
  obtain ⟨i, hi, e⟩ := List.getElem_of_mem hy
  obtain ⟨sc, _, r⟩ := paired_get h (i := i) (y := y) (by rw [List.getElem?_eq_getElem hi, e])
  obtain ⟨p, _, _, _, _, h0, _⟩ := r
  exact h0
theorem waitL_mem {ss : List (List Wd)} {xs : List Row} : ∀ {n j : Nat}, j ∈ waitL ss xs n → ∃ sc x, j < n ∧ ss[j]? = some sc ∧ xs[j]? = some x ∧ x.p < (sc.length : Int)
  | 0, j, h => nomatch h
  | n + 1, j, h => by
    unfold waitL at h
    rcases List.mem_append.mp h with h | h
    · obtain ⟨sc, x, h1, h2⟩ := waitL_mem h
      exact ⟨sc, x, by omega, h2⟩
    · split at h
      · rename_i s x e1 e2
        split at h
        · obtain rfl := List.mem_singleton.mp h
          exact ⟨s, x, by omega, e1, e2, by assumption⟩
        · cases h
      · cases h
theorem waitL_has {ss : List (List Wd)} {xs : List Row} {j : Nat} {sc : List Wd} {x : Row} (e1 : ss[j]? = some sc) (e2 : xs[j]? = some x) (h : x.p < (sc.length : Int)) : ∀ {n : Nat}, j < n → j ∈ waitL ss xs n
  | 0, hn => absurd hn (by omega)
  | n + 1, hn => by
    unfold waitL
    by_cases e : j = n
    · subst e
      rw [e1, e2]
      exact List.mem_append.mpr (.inr (by dsimp only; rw [if_pos h]; exact List.mem_singleton.mpr rfl))
    · exact List.mem_append.mpr (.inl (waitL_has e1 e2 h (by omega)))
end C83

set_option Elab.async false
set_option maxRecDepth 100000
set_option maxHeartbeats 4000000
set_option linter.all false
namespace C83
open PySem L2 My M78
abbrev sScript : Stmt := top 35
abbrev nScript : List Str := ["_law_state", "_law_many", "_law_found", "_law_opened", "_law_reads", "_law_usual", "_law_upto", "_law_k", "_law_some", "_law_word"]
theorem scScript : FnScope nScript ["_law_state", "_law_many"] (defScope sScript) := ⟨rfl, rfl, rfl, by decide +kernel, rfl, by decide +kernel, by decide +kernel⟩

def wV (ws : List Wd) : List V := ws.map fun v => V.str (wS v)
theorem flat_words (ws : List Wd) : (wV ws).all flatV = true := List.all_eq_true.mpr fun x hx => by
  obtain ⟨v, _, rfl⟩ := List.mem_map.mp hx
  rfl
theorem eqV_w (v u : Wd) : eqV (.str (wS v)) (.str (wS u)) = decide (v = u) := by cases v <;> cases u <;> decide +kernel
theorem in_words {u : Wd} {ws : List Wd} (h : inV (.str (wS u)) (wV ws) = true) : u ∈ ws := by
  obtain ⟨y, hy, e⟩ := List.any_eq_true.mp h
  obtain ⟨v, hv, rfl⟩ := List.mem_map.mp hy
  rw [eqV_w] at e
  exact of_decide_eq_true e ▸ hv
def someW (o r : Bool) : List Wd := [.rea, .wri, if r then .sto else .sta] ++ (if o then [.com, .rol, .rea, .wri, .com] else [.beg, .beg, .imm, .exc])
theorem some_ok {v : Wd} {o r : Bool} (h : v ∈ someW o r) : okW v o r = true := by
  revert h
  cases o <;> cases r <;> cases v <;> decide
theorem bO_is (v : Wd) (o : Bool) : bO v o = opB v o := by cases v <;> cases o <;> rfl
theorem bR_is (v : Wd) (r : Bool) : bR v r = rdB v r := by cases v <;> cases r <;> rfl
theorem flg_app (sc ys : List Wd) : ∀ {n : Nat}, n ≤ sc.length → flg (sc ++ ys) n = flg sc n
  | 0, _ => rfl
  | n + 1, h => by
    show (match (sc ++ ys)[n]? with | some v => (opB v (flg (sc ++ ys) n).1, rdB v (flg (sc ++ ys) n).2) | none => flg (sc ++ ys) n) = (match sc[n]? with | some v => (opB v (flg sc n).1, rdB v (flg sc n).2) | none => flg sc n)
    rw [List.getElem?_append_left (by omega), flg_app sc ys (by omega)]
def okAll (sc : List Wd) : Prop := ∀ n v, sc[n]? = some v → okW v (flg sc n).1 (flg sc n).2 = true
theorem okAll.snoc {sc : List Wd} {v : Wd} (h : okAll sc) (hv : okW v (flg sc sc.length).1 (flg sc sc.length).2 = true) : okAll (sc ++ [v]) := fun n u e => by
  by_cases hn : n < sc.length
  · rw [List.getElem?_append_left hn] at e
    rw [flg_app sc [v] (by omega)]
    exact h n u e
  · have : n = sc.length := by
      have := (List.getElem?_eq_some_iff.mp e).1
      simp at this
      omega
    subst this
    rw [flg_app sc [v] (Nat.le_refl _)]
    simp at e
    subst e
    exact hv
theorem at_words {m : Addr} {H : Hp} : ∀ ws : List Wd, AtAll m H (wV ws) (scE ws)
  | [] => .nil
  | v :: r => .cons (.str _) (at_words r)
section
variable {P : Program} {w : World} {K : PySem.W.Frag} {mg : Str → Option Value} {base : Heap}

def spScript : Sp := fun vs H Q _ => ∃ (st c : Addr) (ns : List Int) (n : Nat), vs = [.ref st, .int (n : Int)] ∧ Drw H st c ns ∧ ns.length ≤ 63 ∧ n ≤ 8 ∧
  ∀ (sc : List Wd) (q : Addr) (H' : Hp), okScr sc → H q = none → H' q = some (.tup (wV sc)) → Drw H' st c ns → But st H H' → Q (.ref q) H'
theorem pr_script (D : Df K mg "_law_script" sScript ["_law_state", "_law_many"]) (T : Tx mg) (T2 : Ty mg) (TR : mg "range" = none) (TM : mg "min" = none) (PT : Pr P w K mg base 2 "_law_take" ["_law_state", "_law_many"] spTake) (PO : Pr P w K mg base 3 "_law_one" ["_law_state", "_law_things"] (spOne K)) :
    Pr P w K mg base 4 "_law_script" ["_law_state", "_law_many"] spScript := by
  refine D.pr scScript (fun vs H Q E h => ?_) (fun f cdv A outer s H vs Q E hr h => ?_)
  · obtain ⟨st, c, ns, n, rfl, _⟩ := h
    rfl
  · obtain ⟨st, c, ns, n, rfl, dr, hns, hn8, k⟩ := h
    have nd := scScript.nd
    have hr2 := hr.mono (show 2 ≤ 3 by decide)
    refine ⟨_, (pss_cons (ps_par3 (by rfl) nd (i := 2) (j := 3) (l := 4) rfl rfl rfl (by decide) (by decide) (by decide) rfl rfl rfl (pa_cons (pe_lst pa_nil) (pa_cons pe_bl (pa_cons pe_bl pa_nil))) (by rfl))
      (pss_cons (ps_asg (pe_callP PO hr (by rfl) (pa_cons (pv 0) (pa_cons (pe_lst (pa_cons (pe_tup (pa_cons pe_str (pa_cons pe_str (pa_cons pe_str (pa_cons pe_str pa_nil))))) (pa_cons (pe_tup (pa_cons pe_str (pa_cons pe_str (pa_cons pe_str pa_nil)))) (pa_cons (pe_tup (pa_cons pe_str (pa_cons pe_str pa_nil))) (pa_cons (pe_tup (pa_cons pe_str (pa_cons pe_str (pa_cons pe_str pa_nil)))) (pa_cons (pe_tup (pa_cons pe_str (pa_cons pe_str (pa_cons pe_str pa_nil)))) (pa_cons (pe_tup (pa_cons pe_str (pa_cons pe_str (pa_cons pe_str pa_nil)))) pa_nil))))))) pa_nil))) (pg_name (i := 5) nd rfl (Or.inl rfl)))
      (pss_cons (ps_asg (pe_callP PT hr2 (by rfl) (pa_cons (pv 0) (pa_cons (pe_op op_mul pe_int (pe_callB call_len (by rfl) T.len PySem.boot_len (pa_cons (pv 5) pa_nil))) pa_nil))) (pg_name (i := 6) nd rfl (Or.inl rfl)))
      (pss_cons (ps_for PassesOwn.never rfl (pi_range1 rfl TR (pa_cons (pe_op op_sub (pv 1) (pe_op op_mul (pe_callP PT hr2 (by rfl) (pa_cons (pv 0) (pa_cons pe_int pa_nil))) (pe_callTy call_int1 (by rfl) T.int (by decide +kernel) (pa_cons (pe_cmpR op_gt (pv 1) pe_int (nomark _)) pa_nil)))) pa_nil)) (pg_name (i := 7) nd rfl (Or.inl rfl))
        (pss_cons (ps_asg (pe_lst (pa_cons pe_str (pa_cons pe_str (pa_cons (pe_ix ix_tup (pe_tup (pa_cons pe_str (pa_cons pe_str pa_nil))) (pe_callTy call_int1 (by rfl) T.int (by decide +kernel) (pa_cons (pv 4) pa_nil)) (fun _ _ => rfl)) pa_nil)))) (pg_name (i := 8) nd rfl (Or.inl rfl)))
        (Evl.pss_cut (ps_if (pt_val (pv 3))
          (pss_one (ps_asg (pe_op op_cat (pv 8) (pe_lst (pa_cons pe_str (pa_cons pe_str (pa_cons pe_str (pa_cons pe_str (pa_cons pe_str pa_nil))))))) (pg_name (i := 8) nd rfl (Or.inl rfl))))
          (pss_one (ps_asg (pe_op op_cat (pv 8) (pe_lst (pa_cons pe_str (pa_cons pe_str (pa_cons pe_str (pa_cons pe_str pa_nil)))))) (pg_name (i := 8) nd rfl (Or.inl rfl)))))
        (pss_cons (ps_asg (pe_callP PO hr (by rfl) (pa_cons (pv 0) (pa_cons (pv 8) pa_nil))) (pg_name (i := 9) nd rfl (Or.inl rfl)))
        (Evl.pss_cut (ps_if (PW.pt (pw_and (pt_cmpR op_lt (pv 7) (pe_callB (call_min2 rfl) (by rfl) TM (by decide +kernel) (pa_cons (pv 6) (pa_cons (pe_callB call_len (by rfl) T.len PySem.boot_len (pa_cons (pv 5) pa_nil)) pa_nil))) (nomark _)) (pw_and1 (pt_cmpR op_in_seq (pe_ix ix_tup (pv 5) (pv 7) (fun _ _ => rfl)) (pv 8) (by rfl)))))
          (pss_one (ps_asg (pe_ix ix_tup (pv 5) (pv 7) (fun _ _ => rfl)) (pg_name (i := 9) nd rfl (Or.inl rfl))))
          pss_nil)
        (pss_cons (ps_expr (pe_bm PySem.F.plainAttrs_list PySem.F.slot_list_append PySem.F.type_list_append mt_append (pv 2) (pa_cons (pv 9) pa_nil)))
        (pss_cons (ps_asg (pe_and (pe_cmpR op_notIn_seq (pv 9) (pe_tup (pa_cons pe_str (pa_cons pe_str pa_nil))) (by rfl)) (pe_one (pe_or (pv 3) (pe_one (pe_cmpR op_in_seq (pv 9) (pe_tup (pa_cons pe_str (pa_cons pe_str (pa_cons pe_str pa_nil)))) (by rfl)))))) (pg_name (i := 3) nd rfl (Or.inl rfl)))
        (pss_one (ps_asg (pe_and (pe_cmpR op_ne (pv 9) pe_str (nomark _)) (pe_one (pe_or (pv 4) (pe_one (pe_cmpR op_eq (pv 9) pe_str (nomark _)))))) (pg_name (i := 4) nd rfl (Or.inl rfl)))))))))))
      (pss_one (ps_ret (pe_callTy call_tuple_of (by rfl) T2.tuple (by decide +kernel) (pa_cons (pv 2) pa_nil)))))))), ?_⟩
    refine ⟨(by show 0 ≤ sizeLine; decide), fun F hF => ⟨_, _, _, rfl, ?_⟩⟩
    have sF := same_new (o := HO.lst []) hF
    have eF : upd H F (.lst []) F = some (.lst []) := upd_same
    generalize upd H F (.lst []) = H0 at sF eF ⊢
    have dr0 := dr.same sF
    have nF : F ≠ st := dr.nst hF
    have b0 : But st H H0 := Same.but sF
    -- usual
    refine ⟨_, rfl, (by show 4 ≤ sizeLine; decide), fun T1 nT1 => ?_⟩
    generalize hT1 : upd H0 T1 _ = H1
    have s1 : Same H0 H1 := hT1 ▸ Same.new nT1
    have e1 : H1 T1 = some (.tup [.str (Str.ofString "begin"), .str (Str.ofString "read"), .str (Str.ofString "write"), .str (Str.ofString "commit")]) := hT1 ▸ upd_same
    clear hT1
    refine ⟨(by show 3 ≤ sizeLine; decide), fun T3 nT3 => ?_⟩
    generalize hT3 : upd H1 T3 _ = H3
    have s3 : Same H1 H3 := hT3 ▸ Same.new nT3
    have e3 : H3 T3 = some (.tup [.str (Str.ofString "immediate"), .str (Str.ofString "write"), .str (Str.ofString "commit")]) := hT3 ▸ upd_same
    clear hT3
    refine ⟨(by show 2 ≤ sizeLine; decide), fun T4 nT4 => ?_⟩
    generalize hT4 : upd H3 T4 _ = H4
    have s4 : Same H3 H4 := hT4 ▸ Same.new nT4
    have e4 : H4 T4 = some (.tup [.str (Str.ofString "write"), .str (Str.ofString "read")]) := hT4 ▸ upd_same
    clear hT4
    refine ⟨(by show 3 ≤ sizeLine; decide), fun T5 nT5 => ?_⟩
    generalize hT5 : upd H4 T5 _ = H5
    have s5 : Same H4 H5 := hT5 ▸ Same.new nT5
    have e5 : H5 T5 = some (.tup [.str (Str.ofString "start"), .str (Str.ofString "begin"), .str (Str.ofString "write")]) := hT5 ▸ upd_same
    clear hT5
    refine ⟨(by show 3 ≤ sizeLine; decide), fun T6 nT6 => ?_⟩
    generalize hT6 : upd H5 T6 _ = H6
    have s6 : Same H5 H6 := hT6 ▸ Same.new nT6
    have e6 : H6 T6 = some (.tup [.str (Str.ofString "begin"), .str (Str.ofString "read"), .str (Str.ofString "commit")]) := hT6 ▸ upd_same
    clear hT6
    refine ⟨(by show 3 ≤ sizeLine; decide), fun T7 nT7 => ?_⟩
    generalize hT7 : upd H6 T7 _ = H7
    have s7 : Same H6 H7 := hT7 ▸ Same.new nT7
    have e7 : H7 T7 = some (.tup [.str (Str.ofString "exclusive"), .str (Str.ofString "read"), .str (Str.ofString "commit")]) := hT7 ▸ upd_same
    clear hT7
    refine ⟨(by show 6 ≤ sizeLine; decide), fun T8 nT8 => ?_⟩
    generalize hT8 : upd H7 T8 _ = H8
    have s8 : Same H7 H8 := hT8 ▸ Same.new nT8
    have e8 : H8 T8 = some (.lst [.ref T1, .ref T3, .ref T4, .ref T5, .ref T6, .ref T7]) := hT8 ▸ upd_same
    clear hT8
    have s78 := s8
    have s68 := Same.tr s7 s78
    have s58 := Same.tr s6 s68
    have s48 := Same.tr s5 s58
    have s38 := Same.tr s4 s48
    have s18 := Same.tr s3 s38
    have s08 := Same.tr s1 s18
    have dr8 := dr0.same s08
    have q1 : ∀ x, x ∈ [V.ref T1, .ref T3, .ref T4, .ref T5, .ref T6, .ref T7] → ∃ u us, x = .ref u ∧ u ≠ st ∧ H8 u = some (.tup (wV us)) ∧ 0 < us.length ∧ us.length ≤ 4 := by
      intro x hx
      simp only [List.mem_cons, List.not_mem_nil, or_false] at hx
      rcases hx with rfl | rfl | rfl | rfl | rfl | rfl
      · exact ⟨T1, [.beg, .rea, .wri, .com], rfl, dr0.nst nT1, s18 _ _ e1, by decide, by decide⟩
      · exact ⟨T3, [.imm, .wri, .com], rfl, (dr0.same s1).nst nT3, s38 _ _ e3, by decide, by decide⟩
      · exact ⟨T4, [.wri, .rea], rfl, (dr0.same (Same.tr s1 s3)).nst nT4, s48 _ _ e4, by decide, by decide⟩
      · exact ⟨T5, [.sta, .beg, .wri], rfl, (dr0.same (Same.tr s1 (Same.tr s3 s4))).nst nT5, s58 _ _ e5, by decide, by decide⟩
      · exact ⟨T6, [.beg, .rea, .com], rfl, (dr0.same (Same.tr s1 (Same.tr s3 (Same.tr s4 s5)))).nst nT6, s68 _ _ e6, by decide, by decide⟩
      · exact ⟨T7, [.exc, .rea, .com], rfl, (dr0.same (Same.tr s1 (Same.tr s3 (Same.tr s4 (Same.tr s5 s6))))).nst nT7, s78 _ _ e7, by decide, by decide⟩
    refine ⟨st, c, T8, ns, _, rfl, dr8, hns, (dr0.same (Same.tr s1 (Same.tr s3 (Same.tr s4 (Same.tr s5 (Same.tr s6 s7)))))).nst nT8, .inl (SqL.of e8), (by show 0 < 6; decide), (by show 6 ≤ 10000; decide), fun x H9 hx dr9 b9 => ?_⟩
    obtain ⟨u, us, rfl, nu, hu8, hu1, hu4⟩ := q1 x hx
    have hu9 := b9 _ _ hu8 nu
    have hF9 : H9 F = some (.lst []) := b9 _ _ (s08 _ _ eF) nF
    have bb9 : But st H H9 := (b0.tr' s08).trans b9
    have lus : (wV us).length = us.length := List.length_map ..
    -- upto
    refine ⟨_, rfl, _, rfl, _, _, rfl, (Or.inr ⟨_, SqT.of hu9, rfl⟩), _, _, rfl, rfl, .inl ⟨by decide, by decide⟩, ?_⟩
    refine ⟨st, c, ns, _, rfl, dr9, hns, (by rw [lus]; omega), (by rw [lus]; omega), fun up H10 hup0 hup1 dr10 b10 => ?_⟩
    have hu10 := b10 _ _ hu9 nu
    have hF10 := b10 _ _ hF9 nF
    have bb10 : But st H H10 := bb9.trans b10
    -- the number of turns
    refine ⟨_, rfl, _, rfl, st, c, ns, 3, rfl, dr10, hns, (by decide), (by decide), fun d3 H11 hd0 hd3 dr11 b11 => ?_⟩
    have hu11 := b11 _ _ hu10 nu
    have hF11 := b11 _ _ hF10 nF
    have bb11 : But st H H11 := bb10.trans b11
    refine ⟨_, rfl, _, _, rfl, rfl, .inr ⟨_, rfl, _, _, rfl, rfl, .inl ⟨by omega, by omega⟩, _, _, rfl, rfl, _, rfl, ?_⟩⟩
    generalize hN : ((n : Nat) : Int) - d3 * (if decide (2 < ((n : Nat) : Int)) = true then 1 else 0) = N
    have hN8 : N ≤ 8 := by
      subst hN
      split <;> omega
    have hN0 : -10 ≤ N := by
      subst hN
      split <;> omega
    refine ⟨(by omega), (by omega), ?_⟩
    refine for_range (lo := 0) (n := N.toNat) (fun i σ H2 => But st H H2 ∧ Drw H2 st c ns ∧ H2 u = some (.tup (wV us)) ∧ ∃ (sc : List Wd) (v7 v8 v9 : Option V), sc.length = i ∧ okAll sc ∧ H2 F = some (.lst (wV sc)) ∧
      σ = [some (.ref st), some (.int (n : Int)), some (.ref F), some (.bl (flg sc i).1), some (.bl (flg sc i).2), some (.ref u), some (.int up), v7, v8, v9]) ?_ ?_ ?_
    · exact ⟨bb11, dr11, hu11, [], _, _, _, rfl, fun n v e => by simp at e, hF11, rfl⟩
    · rintro i σ H2 hi ⟨bH, drH, huH, sc, v7, v8, v9, hsc, hok, hFH, rfl⟩
      generalize ho : (flg sc i).1 = o
      generalize hrd : (flg sc i).2 = r
      rw [show (0 : Int) + (i : Nat) = ((i : Nat) : Int) by omega]
      -- some
      have hat : atI [V.str (Str.ofString "start"), .str (Str.ofString "stop")] (if r = true then 1 else 0) = some (.str (wS (if r then .sto else .sta))) := by cases r <;> rfl
      refine ⟨(by show 2 ≤ sizeLine; decide), fun P1 nP1 => ?_⟩
      generalize hP1 : upd H2 P1 _ = H3
      have t1 : Same H2 H3 := hP1 ▸ Same.new nP1
      have f1 : H3 P1 = some (.tup [.str (Str.ofString "start"), .str (Str.ofString "stop")]) := hP1 ▸ upd_same
      clear hP1
      refine ⟨_, rfl, .inr ⟨_, rfl, _, _, _, _, rfl, rfl, SqT.of f1, hat, ?_⟩⟩
      refine ⟨(by show 3 ≤ sizeLine; decide), fun P2 nP2 => ?_⟩
      generalize hP2 : upd H3 P2 _ = H4
      have t2 : Same H3 H4 := hP2 ▸ Same.new nP2
      have f2 : H4 P2 = some (.lst (wV [.rea, .wri, if r then .sto else .sta])) := hP2 ▸ upd_same
      clear hP2
      have t12 : Same H2 H4 := Same.tr t1 t2
      refine ⟨fun σ' H5 => Same H2 H5 ∧ ∃ P3, P3 ≠ st ∧ H5 P3 = some (.lst (wV (someW o r))) ∧ σ' = [some (.ref st), some (.int (n : Int)), some (.ref F), some (.bl o), some (.bl r), some (.ref u), some (.int up), some (.int (i : Int)), some (.ref P3), v9], ?_, ?_⟩
      · refine ⟨_, rfl, _, rfl, ?_⟩
        cases o
        · refine iteF ?_
          refine ⟨_, rfl, (by show 4 ≤ sizeLine; decide), fun P4 nP4 => ?_⟩
          generalize hP4 : upd H4 P4 _ = H5
          have t4 : Same H4 H5 := hP4 ▸ Same.new nP4
          have f4 : H5 P4 = some (.lst [.str (Str.ofString "begin"), .str (Str.ofString "begin"), .str (Str.ofString "immediate"), .str (Str.ofString "exclusive")]) := hP4 ▸ upd_same
          clear hP4
          refine ⟨_, _, _, _, rfl, rfl, t4 _ _ f2, f4, (by show 3 + 4 ≤ sizeLine; decide), fun P5 m5 => ?_⟩
          have t5 := Same.tr t12 t4
          exact ⟨Same.tr t5 (same_new m5), P5, (drH.same t5).nst m5, by rw [upd_same]; cases r <;> rfl, rfl⟩
        · refine iteT ?_
          refine ⟨_, rfl, (by show 5 ≤ sizeLine; decide), fun P4 nP4 => ?_⟩
          generalize hP4 : upd H4 P4 _ = H5
          have t4 : Same H4 H5 := hP4 ▸ Same.new nP4
          have f4 : H5 P4 = some (.lst [.str (Str.ofString "commit"), .str (Str.ofString "rollback"), .str (Str.ofString "read"), .str (Str.ofString "write"), .str (Str.ofString "commit")]) := hP4 ▸ upd_same
          clear hP4
          refine ⟨_, _, _, _, rfl, rfl, t4 _ _ f2, f4, (by show 3 + 5 ≤ sizeLine; decide), fun P5 m5 => ?_⟩
          have t5 := Same.tr t12 t4
          exact ⟨Same.tr t5 (same_new m5), P5, (drH.same t5).nst m5, by rw [upd_same]; cases r <;> rfl, rfl⟩
      rintro σ' H5 ⟨t5, P3, nP3, hP3, rfl⟩
      have lsome : (wV (someW o r)).length ≤ 10 ∧ 0 < (wV (someW o r)).length := by cases o <;> cases r <;> decide
      -- word
      refine ⟨_, rfl, _, rfl, st, c, P3, ns, _, rfl, drH.same t5, hns, nP3, .inl (SqL.of hP3), lsome.2, (by omega), fun x H6 hx dr6 b6 => ?_⟩
      obtain ⟨v0, hv0, rfl⟩ := List.mem_map.mp hx
      have hu6 := b6 _ _ (t5 _ _ huH) nu
      have hF6 := b6 _ _ (t5 _ _ hFH) nF
      have hP6 := b6 _ _ hP3 nP3
      have bH6 : But st H H6 := (bH.tr' t5).trans b6
      refine ⟨fun σ' H7 => H7 = H6 ∧ ∃ v ∈ someW o r, σ' = [some (.ref st), some (.int (n : Int)), some (.ref F), some (.bl o), some (.bl r), some (.ref u), some (.int up), some (.int (i : Int)), some (.ref P3), some (.str (wS v))], ?_, ?_⟩
      · refine ⟨_, rfl, _, rfl, _, rfl, _, _, rfl, (Or.inr ⟨_, SqT.of hu6, rfl⟩), _, _, rfl, _, _, rfl, rfl, _, rfl, ?_⟩
        refine ite2 (fun hk => ?_) (fun hk => ⟨rfl, v0, hv0, rfl⟩)
        have hk2 : i < us.length := by
          have := of_decide_eq_true hk
          rw [lus] at this
          split at this <;> omega
        have hat2 : (wV us)[i]? = some (.str (wS us[i])) := by
          unfold wV
          rw [List.getElem?_map, List.getElem?_eq_getElem hk2]
          rfl
        refine ⟨_, rfl, _, rfl, _, _, _, _, rfl, rfl, SqT.of hu6, atI_nat hat2, _, rfl, _, _, rfl, .inl (SqL.of hP6), rfl, flat_words _, _, rfl, ?_⟩
        refine ite2 (fun hin => ?_) (fun hin => ⟨rfl, v0, hv0, rfl⟩)
        exact ⟨_, rfl, _, rfl, _, _, _, _, rfl, rfl, SqT.of hu6, atI_nat hat2, rfl, us[i], in_words hin, rfl⟩
      rintro σ' H7 ⟨rfl, v, hv, rfl⟩
      -- found.append
      refine ⟨_, rfl, .inl ⟨rfl, _, SqL.of hF6⟩, _, rfl, _, _, _, rfl, rfl, hF6, (by show (List.map _ sc).length < sizeLine; rw [List.length_map]; exact small6 (by omega)), ?_⟩
      have dr7 : Drw (upd H7 F (.lst (wV sc ++ [.str (wS v)]))) st c ns := by
        have nc : c ≠ F := ne_of_none dr.1 hF
        obtain ⟨hc, n', v', b', h0', hs⟩ := dr6
        exact ⟨by rw [upd_ne nc]; exact hc, n', v', b', h0', by rw [upd_ne (Ne.symm nF)]; exact hs⟩
      have bH7 : But st H (upd H7 F (.lst (wV sc ++ [.str (wS v)]))) := fun b u' e nb => by
        rw [upd_ne (ne_of_none e hF)]
        exact bH6 b u' e nb
      have hu7 : (upd H7 F (.lst (wV sc ++ [.str (wS v)]))) u = some (.tup (wV us)) := by
        rw [upd_ne (ne_of hu6 hF6 (by intro z; cases z))]
        exact hu6
      have hF7 : (upd H7 F (.lst (wV sc ++ [.str (wS v)]))) F = some (.lst (wV (sc ++ [v]))) := by
        rw [upd_same]
        unfold wV
        rw [List.map_append]
        rfl
      generalize upd H7 F (.lst (wV sc ++ [.str (wS v)])) = H8 at dr7 bH7 hu7 hF7 ⊢
      dsimp only
      refine seq_asg_gv (x := .bl (bO v o)) (Gv.and (fun Q' kk => ?_) (fun H1 s1 => Gv.or (fun Q' kk => ⟨_, rfl, kk _ (Same.rfl' _)⟩) (fun H2 s2 Q' kk => ?_))) ?_
      · refine ⟨_, rfl, (by show 2 ≤ sizeLine; decide), fun tp htp => ?_⟩
        have sx := same_new (o := .tup [.str (Str.ofString "commit"), .str (Str.ofString "rollback")]) htp
        have ex := upd_same (H := H8) (a := tp) (o := .tup [.str (Str.ofString "commit"), .str (Str.ofString "rollback")])
        refine ⟨_, _, rfl, .inr (SqT.of ex), rfl, rfl, ?_⟩
        rw [in_en v]
        exact kk _ sx
      · refine ⟨_, rfl, (by show 3 ≤ sizeLine; decide), fun tp htp => ?_⟩
        have sx := same_new (o := .tup [.str (Str.ofString "begin"), .str (Str.ofString "immediate"), .str (Str.ofString "exclusive")]) htp
        have ex := upd_same (H := H2) (a := tp) (o := .tup [.str (Str.ofString "begin"), .str (Str.ofString "immediate"), .str (Str.ofString "exclusive")])
        refine ⟨_, _, rfl, .inr (SqT.of ex), rfl, rfl, ?_⟩
        rw [in_op v]
        exact kk _ sx
      intro H12 s12
      dsimp only [gName]
      refine asg_gv (x := .bl (bR v r)) (Gv.and (fun Q' kk => ?_) (fun H1 s1 => Gv.or (fun Q' kk => ⟨_, rfl, kk _ (Same.rfl' _)⟩) (fun H2 s2 Q' kk => ?_))) ?_
      · refine ⟨_, rfl, rfl, ?_⟩
        rw [show decide (V.str (wS v) = V.str (Str.ofString "stop")) = decide (v = .sto) from eqW v .sto]
        exact kk _ (Same.rfl' _)
      · refine ⟨_, rfl, rfl, ?_⟩
        rw [show decide (V.str (wS v) = V.str (Str.ofString "start")) = decide (v = .sta) from eqW v .sta]
        exact kk _ (Same.rfl' _)
      intro H13 s13
      have s14 : Same H8 H13 := Same.tr s12 s13
      have hfl : flg (sc ++ [v]) (i + 1) = (bO v o, bR v r) := by
        have := flg_succ (sc := sc ++ [v]) (p := i) (v := v) (by rw [← hsc]; simp)
        rw [this, flg_app sc [v] (by omega), ho, hrd, bO_is, bR_is]
      refine ⟨bH7.tr' s14, dr7.same s14, s14 _ _ hu7, sc ++ [v], some (.int (i : Int)), some (.ref P3), some (.str (wS v)), by rw [List.length_append, hsc]; rfl, hok.snoc (by rw [hsc, ho, hrd]; exact some_ok hv), s14 _ _ hF7, ?_⟩
      rw [hfl]
      rfl
    · rintro σ H2 ⟨bH, drH, huH, sc, v7, v8, v9, hsc, hok, hFH, rfl⟩
      refine ⟨_, rfl, _, _, rfl, .inl ⟨SqL.of hFH, fun q hq => ?_⟩⟩
      have nq := drH.nst hq
      exact k sc q _ ⟨by omega, hok⟩ (bH.free nq hq) upd_same (drH.new hq) (bH.new hq)
end
end C83

set_option Elab.async false
set_option maxRecDepth 100000
set_option maxHeartbeats 4000000
set_option linter.all false
namespace C83
open PySem L2 My M78
abbrev sScripts : Stmt := top 36
abbrev nScripts : List Str := ["_law_state", "_law_most", "_law_many", "_law_k"]
theorem scScripts : FnScope nScripts ["_law_state", "_law_most", "_law_many"] (defScope sScripts) := ⟨rfl, rfl, rfl, by decide +kernel, rfl, by decide +kernel, by decide +kernel⟩
section
variable {P : Program} {w : World} {K : PySem.W.Frag} {mg : Str → Option Value} {base : Heap}

def spScripts : Sp := fun vs H Q _ => ∃ (st c : Addr) (ns : List Int) (most n : Nat), vs = [.ref st, .int (most : Int), .int (n : Int)] ∧ Drw H st c ns ∧ ns.length ≤ 63 ∧ n ≤ 8 ∧ 0 < most ∧ most ≤ 4 ∧
  ∀ (ss : List (List Wd)) (q : Addr) (H' : Hp), 1 ≤ ss.length → ss.length ≤ most → (∀ sc ∈ ss, okScr sc) → At st H' (.ref q) (scD ss) → Drw H' st c ns → But st H H' → Q (.ref q) H'
theorem pr_scripts (D : Df K mg "_law_scripts" sScripts ["_law_state", "_law_most", "_law_many"]) (T2 : Ty mg) (TR : mg "range" = none) (PT : Pr P w K mg base 2 "_law_take" ["_law_state", "_law_many"] spTake) (PS : Pr P w K mg base 4 "_law_script" ["_law_state", "_law_many"] spScript) :
    Pr P w K mg base 5 "_law_scripts" ["_law_state", "_law_most", "_law_many"] spScripts := by
  refine D.pr scScripts (fun vs H Q E h => ?_) (fun f cdv A outer s H vs Q E hr h => ?_)
  · obtain ⟨st, c, ns, most, n, rfl, _⟩ := h
    rfl
  · obtain ⟨st, c, ns, most, n, rfl, dr, hns, hn8, hm0, hm4, k⟩ := h
    have nd := scScripts.nd
    have hr2 := hr.mono (show 2 ≤ 4 by decide)
    refine ⟨_, (pss_one (ps_ret (pe_callTy call_tuple_of (by rfl) T2.tuple (by decide +kernel) (pa_cons (pe_lc (own := [("_law_k", 3)]) (g := gName 3) (tt := tYes) (by rfl) nd (pi_range1 rfl TR (pa_cons (pe_op op_add pe_int (pe_callP PT hr2 (by rfl) (pa_cons (pv 0) (pa_cons (pv 1) pa_nil)))) pa_nil))
  (blkOk_by (own := [("_law_k", 3)]) (N := nScripts) (sc := defScope sScripts) (by decide +kernel))
  (fun _ _ _ _ _ => pg_name (i := 3) nd rfl (Or.inl rfl) (Or.inr rfl)) (fun _ _ _ _ _ => pts_nil)
  (fun _ _ _ _ _ => (pe_callP PS hr (by rfl) (pa_cons (pv 0) (pa_cons (pv 2) pa_nil))))) pa_nil)))), ?_⟩
    refine ⟨_, rfl, _, rfl, st, c, ns, most, rfl, dr, hns, (by omega), (by omega), fun d H1 hd0 hd1 dr1 b1 => ?_⟩
    refine ⟨_, _, rfl, rfl, _, rfl, (by omega), (by omega), fun Dl hD => ?_⟩
    obtain ⟨o, hst⟩ := dr1.at
    refine lc_range (lo := 0) (n := ((1 : Int) + d).toNat) (fun i H2 => But st H1 H2 ∧ Drw H2 st c ns ∧ ∃ (ss : List (List Wd)) (vs : List V), ss.length = i ∧ (∀ sc ∈ ss, okScr sc) ∧ Bld st Dl H2 vs (ss.map fun sc => .tuple (scE sc))) ?_ ?_ ?_
    · exact ⟨(But.refl st H1).new hD, dr1.new hD, [], [], rfl, (fun _ h => nomatch h), Bld.start hst hD⟩
    · rintro i H2 hi ⟨b2, dr2, ss, vs, ls, oks, bl⟩
      refine ⟨rfl, ?_⟩
      refine ⟨_, rfl, _, rfl, st, c, ns, n, rfl, dr2, hns, hn8, fun sc q H3 hsc nq hq dr3 b3 => ?_⟩
      have bl3 := bl.but b3
      have nqs : q ≠ st := dr2.nst nq
      have nqD : q ≠ Dl := fun z => by
        rw [z, bl.2.1] at nq
        cases nq
      refine ⟨vs, bl3.2.1, ?_, ?_, ?_, ss ++ [sc], vs ++ [.ref q], by rw [List.length_append, ls]; rfl, ?_, ?_⟩
      · rw [bl.len, List.length_map, ls]
        exact small6 (by omega)
      · intro b u e nb
        rw [upd_ne (ne_of_none e hD)]
        exact b3 _ _ (b2 _ _ e nb) nb
      · obtain ⟨hc, n', v', b', h0', hs⟩ := dr3
        exact ⟨by rw [upd_ne (ne_of_none dr1.1 hD)]; exact hc, n', v', b', h0', by rw [upd_ne (Ne.symm bl.1)]; exact hs⟩
      · intro x hx
        rcases List.mem_append.mp hx with h | h
        · exact oks x h
        · rw [List.mem_singleton.mp h]
          exact hsc
      · rw [List.map_append]
        exact bl3.push (.tup nqs hq (at_words sc)) (.tup nqD hq (at_words sc))
    · rintro H2 ⟨b2, dr2, ss, vs, ls, oks, bl⟩
      refine ⟨_, _, rfl, .inl ⟨SqL.of bl.2.1, fun q hq => ?_⟩⟩
      obtain ⟨o2, hst2⟩ := dr2.at
      exact k ss q _ (by omega) (by omega) oks (bl.tup hst2 hq) (dr2.new hq) ((b1.trans b2).new hq)
end
end C83

set_option Elab.async false
set_option maxRecDepth 100000
set_option maxHeartbeats 4000000
set_option linter.all false
namespace C83
open PySem L2 My M78
abbrev sHanded : Stmt := top 44
abbrev nHanded : List Str := ["_law_state", "_law_thing", "_law_parts", "_law_part"]
theorem scHanded : FnScope nHanded ["_law_state", "_law_thing"] (defScope sHanded) := ⟨rfl, rfl, rfl, by decide +kernel, rfl, by decide +kernel, by decide +kernel⟩

mutual
/-- the same thing, each list or tuple in it a list or a tuple -/
inductive Hnd : PyData → PyData → Prop
  | leaf {d : PyData} : lt2 d = false → Hnd d d
  | seq {d d' : PyData} {ds ds' : List PyData} : Sq2 d ds → Sq2 d' ds' → HndAll ds ds' → Hnd d d'
inductive HndAll : List PyData → List PyData → Prop
  | nil : HndAll [] []
  | cons {d d' : PyData} {ds ds' : List PyData} : Hnd d d' → HndAll ds ds' → HndAll (d :: ds) (d' :: ds')
end
theorem HndAll.snoc : ∀ {ds ds' : List PyData} {d d' : PyData}, HndAll ds ds' → Hnd d d' → HndAll (ds ++ [d]) (ds' ++ [d'])
  | _, _, _, _, .nil, h => .cons h .nil
  | _, _, _, _, .cons h q, e => .cons h (HndAll.snoc q e)
theorem HndAll.len : ∀ {ds ds' : List PyData}, HndAll ds ds' → ds'.length = ds.length
  | _, _, .nil => rfl
  | _, _, .cons _ q => by rw [List.length_cons, List.length_cons, HndAll.len q]
theorem leaf_any {m z : Addr} {H H' : Hp} {x : V} {d : PyData} (h : At m H x d) (l : lt2 d = false) : At z H' x d := by
  cases h with
  | non => exact .non
  | bl b => exact .bl b
  | int i => exact .int i
  | str s => exact .str s
  | lst _ _ _ => cases l
  | tup _ _ _ => cases l
theorem lev_sq {n : Nat} {d : PyData} {ds : List PyData} (h : Lev n d) (s : Sq2 d ds) : ∃ n', n = n' + 1 ∧ ds.length ≤ 5000000 ∧ ∀ x, x ∈ ds → Lev n' x := by
  rcases s with rfl | rfl
  · cases h with
    | lst a b => exact ⟨_, rfl, a, b⟩
  · cases h with
    | tup a b => exact ⟨_, rfl, a, b⟩
theorem lt2_sq {d : PyData} (h : lt2 d = true) : ∃ ds, Sq2 d ds := by
  cases d <;> first | exact ⟨_, .inl rfl⟩ | exact ⟨_, .inr rfl⟩ | cases h
section
variable {P : Program} {w : World} {K : PySem.W.Frag} {mg : Str → Option Value} {base : Heap}

def spHanded (n : Nat) : Sp := fun vs H Q _ => ∃ (st c : Addr) (ns : List Int) (x : V) (d : PyData), vs = [.ref st, x] ∧ Drw H st c ns ∧ ns.length ≤ 63 ∧ At st H x d ∧ Lev n d ∧
  ∀ (y : V) (d' : PyData) (H' : Hp), Hnd d d' → (∀ z o, H z = some o → At z H' y d') → Drw H' st c ns → But st H H' → Q y H'
def spH : Nat → Sp
  | 0 => fun _ _ _ _ => False
  | n + 1 => spHanded n
theorem step_handed (D : Df K mg "_law_handed" sHanded ["_law_state", "_law_thing"]) (T : Ty mg) (PT : Pr P w K mg base 2 "_law_take" ["_law_state", "_law_many"] spTake) {n : Nat} (PH : Pr P w K mg base (n + 2) "_law_handed" ["_law_state", "_law_thing"] (spH n)) :
    Pr P w K mg base (n + 3) "_law_handed" ["_law_state", "_law_thing"] (spHanded n) := by
  refine D.pr scHanded (fun vs H Q E h => ?_) (fun f cdv A outer s H vs Q E hr h => ?_)
  · obtain ⟨st, c, ns, x, d, rfl, _⟩ := h
    rfl
  · obtain ⟨st, c, ns, x, d, rfl, dr, hns, ax, lv, k⟩ := h
    have nd := scHanded.nd
    have hr2 := hr.mono (show 2 ≤ n + 2 by omega)
    refine ⟨_, (pss_cons (ps_if (pt_not (pt_val (pe_callB call_isiT (by rfl) T.isinstance (by decide +kernel) (pa_cons (pv 1) (pa_cons (pe_tup (pa_cons (pe_bltn (v := .ty "list") (by rfl) T.list (by decide +kernel) rfl) (pa_cons (pe_bltn (v := .ty "tuple") (by rfl) T.tuple (by decide +kernel) rfl) pa_nil))) pa_nil)))))
        (pss_one (ps_ret (pv 1)))
        pss_nil)
      (pss_cons (ps_setLc (i := 2) (own := [("_law_part", 3)]) (g := gName 3) (tt := tYes) (by rfl) nd rfl rfl (sw_true rfl rfl rfl (by decide +kernel)) (pi_sq (pv 1))
  (blkOk_by (own := [("_law_part", 3)]) (N := nHanded) (sc := defScope sHanded) (by decide +kernel))
  (fun _ _ _ _ _ => pg_name (i := 3) nd rfl (Or.inl rfl) (Or.inr rfl)) (fun _ _ _ _ _ => pts_nil)
  (fun _ _ _ _ _ => (pe_callP PH hr (by rfl) (pa_cons (pv 0) (pa_cons (pv 3) pa_nil)))))
      (pss_one (ps_ret (pe_ix ix_list (pe_lst (pa_cons (pv 2) (pa_cons (pe_callTy call_tuple_of (by rfl) T.tuple (by decide +kernel) (pa_cons (pv 2) pa_nil)) pa_nil))) (pe_callP PT hr2 (by rfl) (pa_cons (pv 0) (pa_cons pe_int pa_nil))) (fun _ _ => rfl)))))), ?_⟩
    refine ⟨_, rfl, (by show 2 ≤ sizeLine; decide), fun tp ntp => ?_⟩
    generalize htp : upd H tp _ = H1
    have stp : Same H H1 := htp ▸ Same.new ntp
    have etp : H1 tp = some (.tup [.ty "list", .ty "tuple"]) := htp ▸ upd_same
    clear htp
    have ax1 := ax.mono (Same.but (m := st) stp)
    refine ⟨_, _, _, _, _, lt2 d, rfl, etp, cls_all ["list", "tuple"], ax1.ty, kit_any ?_, ?_⟩
    · cases ax
      · exact k_NoneType_lt
      · exact k_bool_lt
      · exact k_int_lt
      · exact k_str_lt
      · exact k_list_lt
      · exact k_tuple_lt
    refine ⟨_, rfl, ?_⟩
    cases hlt : lt2 d
    · refine iteT ⟨_, rfl, k x d _ (.leaf hlt) (fun z o _ => leaf_any ax hlt) (dr.same stp) (Same.but stp)⟩
    refine iteF ?_
    obtain ⟨ds, sq⟩ := lt2_sq hlt
    obtain ⟨n', rfl, lds, lev⟩ := lev_sq lv sq
    obtain ⟨a, us, rfl, na, hsq, aus⟩ := sq.at ax1
    have lus : us.length = ds.length := aus.length
    have dr1 := dr.same stp
    refine isq (a := a) (us := us) (fun Q q => ⟨_, rfl, q⟩) hsq (fun J G W hG => fun Dl hD => ?_)
    have nD : Dl ≠ st := dr1.nst hD
    refine lc_it W (fun i H2 => But st H1 H2 ∧ Drw H2 st c ns ∧ ∃ (vs : List V) (es : List PyData), HndAll (ds.take i) es ∧ H2 Dl = some (.lst vs) ∧ AtAll Dl H2 vs es ∧ ∀ z o, H1 z = some o → AtAll z H2 vs es) ?_ ?_ ?_ ?_
    · exact ⟨(But.refl st H1).new hD, dr1.new hD, [], [], .nil, upd_same, .nil, fun _ _ _ => .nil⟩
    · rintro i H2 _ ⟨b2, _⟩
      exact hG _ (fun o e => b2 _ _ e na)
    · rintro i y H9 H2 hi ⟨b2, dr2, vs, es, hes, hl, aD, aZ⟩ ⟨rfl, er⟩
      obtain ⟨de, e1, ae⟩ := aus.get er
      have ld : Lev n' de := lev de (List.mem_of_getElem? e1)
      refine ⟨rfl, ?_⟩
      refine ⟨_, rfl, _, rfl, ?_⟩
      refine ⟨st, c, ns, y, de, rfl, dr2, hns, ae.mono b2, ld, fun y' d' H3 hh hz dr3 b3 => ?_⟩
      obtain ⟨o1, hst1⟩ := dr1.at
      obtain ⟨o2, hst2⟩ := dr2.at
      have aS2 := aZ _ _ hst1
      have hl3 := b3 _ _ hl nD
      have lvs : vs.length = i := by
        rw [aD.length, hes.len, List.length_take]
        omega
      have aD3 : AtAll Dl H3 (vs ++ [y']) (es ++ [d']) := (aD.but2 (But2.ofM b3).swap aS2).append (hz _ _ hl)
      have aZ3 : ∀ z o, H1 z = some o → AtAll z H3 (vs ++ [y']) (es ++ [d']) := fun z o hz1 => by
        refine ((aZ z o hz1).but2 (But2.ofM b3).swap aS2).append ?_
        by_cases hzs : z = st
        · subst hzs
          exact hz _ _ hst2
        · exact hz _ _ (b2 _ _ hz1 hzs)
      refine ⟨vs, hl3, (by rw [lvs]; exact Nat.lt_of_lt_of_le (show i < 5000000 by omega) (by decide)), ?_, ?_, vs ++ [y'], es ++ [d'], ?_, upd_same, ?_, ?_⟩
      · intro b u e nb
        rw [upd_ne (ne_of_none e hD)]
        exact b3 _ _ (b2 _ _ e nb) nb
      · obtain ⟨hc, n', v', b', h0', hs⟩ := dr3
        exact ⟨by rw [upd_ne (ne_of_none dr1.1 hD)]; exact hc, n', v', b', h0', by rw [upd_ne (Ne.symm nD)]; exact hs⟩
      · rw [take_succ' e1]
        exact hes.snoc hh
      · exact aD3.but2 (fun x u e n1 _ => by rw [upd_ne n1]; exact e) aD3
      · intro z o hz1
        exact (aZ3 z o hz1).but2 But2.upd aD3
    · rintro H2 ⟨b2, dr2, vs, es, hes, hl, aD, aZ⟩
      rw [lus, List.take_length] at hes
      have bb2 : But st H H2 := (Same.but stp).trans b2
      refine ⟨_, rfl, _, rfl, _, _, rfl, .inl ⟨SqL.of hl, fun q hq => ?_⟩⟩
      have s3 := same_new (o := .tup vs) hq
      have e3 : upd H2 q (.tup vs) q = some (.tup vs) := upd_same
      generalize upd H2 q (.tup vs) = H3 at s3 e3 ⊢
      refine ⟨(by show 2 ≤ sizeLine; decide), fun L nL => ?_⟩
      generalize hL : upd H3 L _ = H4
      have sL : Same H3 H4 := hL ▸ Same.new nL
      have eL : H4 L = some (.lst [.ref Dl, .ref q]) := hL ▸ upd_same
      clear hL
      have s4 := Same.tr s3 sL
      refine ⟨_, rfl, st, c, ns, 2, rfl, dr2.same s4, hns, (by decide), (by decide), fun j H5 hj0 hj2 dr5 b5 => ?_⟩
      have b25 : But st H2 H5 := (Same.but s4).trans b5
      have nL : L ≠ st := (dr2.same s3).nst nL
      have nq : q ≠ st := dr2.nst hq
      have bb5 := bb2.trans b25
      obtain ⟨o1, hst1⟩ := dr1.at
      have aS2 := aZ _ _ hst1
      have up : ∀ z o, H z = some o → AtAll z H5 vs es ∧ z ≠ Dl ∧ z ≠ q := fun z o hz => by
        have hz1 := stp _ _ hz
        refine ⟨(aZ z o hz1).but2 (But2.ofM b25).swap aS2, ne_of_none hz1 hD, ?_⟩
        by_cases hzs : z = st
        · rw [hzs]
          exact Ne.symm nq
        · exact ne_of_none (b2 _ _ hz1 hzs) hq
      rcases (show j = 0 ∨ j = 1 by omega) with rfl | rfl
      · refine ⟨_, _, _, _, rfl, rfl, SqL.of (b5 _ _ eL nL), rfl, ?_⟩
        exact k _ (.list es) _ (.seq sq (.inl rfl) hes) (fun z o hz => .lst (Ne.symm (up z o hz).2.1) (b25 _ _ hl nD) (up z o hz).1) dr5 bb5
      · refine ⟨_, _, _, _, rfl, rfl, SqL.of (b5 _ _ eL nL), rfl, ?_⟩
        exact k _ (.tuple es) _ (.seq sq (.inr rfl) hes) (fun z o hz => .tup (Ne.symm (up z o hz).2.2) (b5 _ _ (sL _ _ e3) nq) (up z o hz).1) dr5 bb5
theorem pr_handed (D : Df K mg "_law_handed" sHanded ["_law_state", "_law_thing"]) (T : Ty mg) (PT : Pr P w K mg base 2 "_law_take" ["_law_state", "_law_many"] spTake) : ∀ n, Pr P w K mg base (n + 2) "_law_handed" ["_law_state", "_law_thing"] (spH n)
  | 0 => by
    obtain ⟨f, fd, F, b, g⟩ := D
    exact ⟨f, fd, ⟨fun _ _ _ _ h => h.elim, fun _ _ _ _ _ _ _ _ _ _ _ _ _ h => h.elim⟩, g, F.kp, b⟩
  | n + 1 => step_handed D T PT (pr_handed D T PT n)
end
end C83

set_option Elab.async false
set_option maxRecDepth 100000
set_option maxHeartbeats 4000000
set_option linter.all false
/-! The search by layers, in plain Lean. -/
namespace C83
open PySem L2 My M78
/-- a step of script k: the state behind it, and whether it is refused -/
def nx (ss : List (List Wd)) (xs : List Row) (k : Nat) : List Row × Bool :=
  match ss[k]?, xs[k]? with
  | some sc, some x => (match sc[x.p.toNat]? with | some v => (xs.set k (triedM v x (topM xs k)).1, (triedM v x (topM xs k)).2) | none => (xs, true))
  | _, _ => (xs, true)
abbrev wt (ss : List (List Wd)) (xs : List Row) : List Nat := waitL ss xs xs.length
/-- what is known of a state -/
def St (ss : List (List Wd)) (xs : List Row) : Prop := SI ss xs
structure Ok4 (ss : List (List Wd)) : Prop where
  l1 : 1 ≤ ss.length
  l4 : ss.length ≤ 4
  ok : ∀ sc ∈ ss, okScr sc
theorem wt_nx {ss : List (List Wd)} {xs : List Row} {k : Nat} (ok : ∀ sc ∈ ss, okScr sc) (si : SI ss xs) (hk : k ∈ wt ss xs) :
    ∃ (sc : List Wd) (x : Row) (p : Nat) (v : Wd), ss[k]? = some sc ∧ xs[k]? = some x ∧ x.p = (p : Int) ∧ sc[p]? = some v ∧ nx ss xs k = (xs.set k (triedM v x (topM xs k)).1, (triedM v x (topM xs k)).2) ∧ SI ss (nx ss xs k).1 ∧ afterM v x (topM xs k) = triedM v x (topM xs k) := by
  obtain ⟨sc, x, hj, hsc, hx, hp⟩ := waitL_mem hk
  have ri := si.get hsc hx
  obtain ⟨p, hpp, hple, _⟩ := id ri
  have hpl : p < sc.length := by omega
  obtain ⟨v, hv⟩ : ∃ v, sc[p]? = some v := ⟨_, List.getElem?_eq_getElem hpl⟩
  obtain ⟨haf, ri'⟩ := ri.step (t := topM xs k) (ok sc (List.mem_of_getElem? hsc)) hpp hv
  have e : nx ss xs k = (xs.set k (triedM v x (topM xs k)).1, (triedM v x (topM xs k)).2) := by
    unfold nx
    rw [hsc, hx]
    dsimp only
    rw [hpp, Int.toNat_natCast, hv]
  refine ⟨sc, x, p, v, hsc, hx, hpp, hv, e, ?_, haf⟩
  rw [e]
  exact si.set hsc ri'
theorem nx_len (ss : List (List Wd)) (xs : List Row) (k : Nat) : (nx ss xs k).1.length = xs.length := by
  unfold nx
  split
  · split
    · rw [List.length_set]
    · rfl
  · rfl
/-! finitely many states -/
/-- the rows that a script may have -/
def rowsOf (sc : List Wd) : List Row := (List.range (sc.length + 1)).flatMap fun p : Nat => (List.range 5).map fun l : Nat => ⟨(p : Int), (flg sc p).1, (flg sc p).2, (l : Int)⟩
def allSt : List (List Wd) → List (List Row)
  | [] => [[]]
  | sc :: r => (rowsOf sc).flatMap fun x => (allSt r).map fun xs => x :: xs
theorem rowsOf_mem {sc : List Wd} {x : Row} (h : RI sc x) : x ∈ rowsOf sc := by
  obtain ⟨p, hp, hle, ho, hr, h0, h4, _⟩ := h
  refine List.mem_flatMap.mpr ⟨p, List.mem_range.mpr (by omega), List.mem_map.mpr ⟨x.l.toNat, List.mem_range.mpr (by omega), ?_⟩⟩
  obtain ⟨xp, xo, xr, xl⟩ := x
  dsimp only at *
  subst hp ho hr
  rw [Int.toNat_of_nonneg h0]
theorem rowsOf_len (sc : List Wd) : (rowsOf sc).length = (sc.length + 1) * 5 := by
  unfold rowsOf
  rw [List.length_flatMap]
  have : (List.range (sc.length + 1)).map (fun p : Nat => ((List.range 5).map fun l : Nat => (⟨(p : Int), (flg sc p).1, (flg sc p).2, (l : Int)⟩ : Row)).length) = List.replicate (sc.length + 1) 5 := by
    rw [List.eq_replicate_iff]
    refine ⟨by rw [List.length_map, List.length_range], fun b hb => ?_⟩
    obtain ⟨p, _, rfl⟩ := List.mem_map.mp hb
    rw [List.length_map, List.length_range]
  rw [this, List.sum_replicate_nat]
theorem allSt_mem : ∀ {ss : List (List Wd)} {xs : List Row}, SI ss xs → xs ∈ allSt ss
  | _, _, .nil => List.mem_singleton.mpr rfl
  | _, _, .cons h q => List.mem_flatMap.mpr ⟨_, rowsOf_mem h, List.mem_map.mpr ⟨_, allSt_mem q, rfl⟩⟩
theorem flat_const {α β : Type} (l : List α) (m : List β) (f : α → β → List Row) : (l.flatMap fun x => m.map fun y => f x y).length = l.length * m.length := by
  induction l with
  | nil => simp
  | cons a r ih =>
    rw [List.flatMap_cons, List.length_append, ih, List.length_map, List.length_cons, Nat.add_mul, Nat.one_mul]
    omega
def bnd : List (List Wd) → Nat
  | [] => 1
  | sc :: r => ((sc.length + 1) * 5) * bnd r
theorem allSt_len : ∀ ss : List (List Wd), (allSt ss).length = bnd ss
  | [] => rfl
  | sc :: r => by
    show ((rowsOf sc).flatMap fun x => (allSt r).map fun xs => x :: xs).length = _
    rw [flat_const (rowsOf sc) (allSt r) (fun x xs => x :: xs), rowsOf_len, allSt_len r]
    rfl
theorem bnd_pos : ∀ ss : List (List Wd), 1 ≤ bnd ss
  | [] => Nat.le_refl _
  | sc :: r => Nat.mul_pos (by omega) (bnd_pos r)
theorem bnd_le : ∀ {ss : List (List Wd)} {n : Nat}, (∀ sc ∈ ss, sc.length ≤ 8) → ss.length ≤ n → bnd ss ≤ 45 ^ n
  | [], n, _, _ => Nat.one_le_pow _ _ (by decide)
  | sc :: r, n, h, hn => by
    obtain ⟨n', rfl⟩ : ∃ n', n = n' + 1 := ⟨n - 1, by rw [List.length_cons] at hn; omega⟩
    have h1 := bnd_le (ss := r) (n := n') (fun s hs => h s (List.mem_cons_of_mem _ hs)) (by rw [List.length_cons] at hn; omega)
    have h2 := h sc (List.mem_cons_self ..)
    show ((sc.length + 1) * 5) * bnd r ≤ 45 ^ (n' + 1)
    rw [Nat.pow_succ, Nat.mul_comm (45 ^ n')]
    exact Nat.mul_le_mul (by omega) h1
theorem bnd_small {ss : List (List Wd)} (h : Ok4 ss) : bnd ss ≤ 4100625 := bnd_le (n := 4) (fun sc hs => (h.ok sc hs).1) h.l4
theorem nodup_le {α : Type} [DecidableEq α] : ∀ {l m : List α}, l.Nodup → (∀ x ∈ l, x ∈ m) → l.length ≤ m.length
  | [], m, _, _ => Nat.zero_le _
  | a :: r, m, hn, hs => by
    have ha := hs a (List.mem_cons_self ..)
    obtain ⟨hn1, hn2⟩ := List.nodup_cons.mp hn
    have h1 : r.length ≤ (m.erase a).length := nodup_le hn2 fun x hx => (List.mem_erase_of_ne (fun z : x = a => hn1 (by rw [← z]; exact hx))).mpr (hs x (List.mem_cons_of_mem _ hx))
    rw [List.length_erase_of_mem ha] at h1
    have : 1 ≤ m.length := List.length_pos_of_mem ha
    rw [List.length_cons]
    omega
/-! the search -/
/-- a state that was found: how many steps to it, and from where -/
structure Nd where
  s : List Row
  d : Nat
  par : Option (List Row × Nat)
def addN (es : List Nd) (x : Nd) (y : List Row) (k : Nat) : List Nd := if y ∈ es.map Nd.s then es else es ++ [⟨y, x.d + 1, some (x.s, k)⟩]
def stepN (ss : List (List Wd)) (tr : Bool) (x : Nd) (es : List Nd) (k : Nat) : List Nd := if (tr || !(nx ss x.s k).2) = true then addN es x (nx ss x.s k).1 k else es
def expN (ss : List (List Wd)) (tr : Bool) (x : Nd) (es : List Nd) (ks : List Nat) : List Nd := ks.foldl (stepN ss tr x) es
def s0 (ss : List (List Wd)) : List Row := List.replicate ss.length row0
def bfs (ss : List (List Wd)) (tr : Bool) : Nat → List Nd
  | 0 => [⟨s0 ss, 0, none⟩]
  | n + 1 => match (bfs ss tr n)[n]? with
    | some x => expN ss tr x (bfs ss tr n) (wt ss x.s)
    | none => bfs ss tr n
/-- how a state was found -/
def GoodN (ss : List (List Wd)) (tr : Bool) (es : List Nd) (e : Nd) : Prop :=
  (e.par = none ∧ e.d = 0 ∧ e.s = s0 ss) ∨ ∃ x ∈ es, ∃ k, e.par = some (x.s, k) ∧ e.d = x.d + 1 ∧ k ∈ wt ss x.s ∧ (nx ss x.s k).1 = e.s ∧ (tr = true ∨ (nx ss x.s k).2 = false)
/-- what holds while the state number n is looked at -/
structure InvN (ss : List (List Wd)) (tr : Bool) (es : List Nd) : Prop where
  nodup : (es.map Nd.s).Nodup
  si : ∀ e ∈ es, SI ss e.s
  good : ∀ e ∈ es, GoodN ss tr es e
  first : ∃ r, es = ⟨s0 ss, 0, none⟩ :: r
theorem GoodN.more {ss : List (List Wd)} {tr : Bool} {es es' : List Nd} {e : Nd} (h : GoodN ss tr es e) (s : ∀ x ∈ es, x ∈ es') : GoodN ss tr es' e := by
  rcases h with h | ⟨x, hx, h⟩
  · exact .inl h
  · exact .inr ⟨x, s x hx, h⟩
theorem step_pre (ss : List (List Wd)) (tr : Bool) (x : Nd) (es : List Nd) (k : Nat) : ∃ t, stepN ss tr x es k = es ++ t := by
  unfold stepN addN
  split
  · split
    · exact ⟨[], (List.append_nil _).symm⟩
    · exact ⟨_, rfl⟩
  · exact ⟨[], (List.append_nil _).symm⟩
theorem exp_pre (ss : List (List Wd)) (tr : Bool) (x : Nd) : ∀ (ks : List Nat) (es : List Nd), ∃ t, expN ss tr x es ks = es ++ t
  | [], es => ⟨[], (List.append_nil _).symm⟩
  | k :: r, es => by
    obtain ⟨t, ht⟩ := step_pre ss tr x es k
    obtain ⟨t', ht'⟩ := exp_pre ss tr x r (stepN ss tr x es k)
    exact ⟨t ++ t', by show expN ss tr x (stepN ss tr x es k) r = _; rw [ht', ht, List.append_assoc]⟩
theorem InvN.step {ss : List (List Wd)} {tr : Bool} {es : List Nd} {x : Nd} {k : Nat} (h : InvN ss tr es) (ok : ∀ sc ∈ ss, okScr sc) (hx : x ∈ es) (hk : k ∈ wt ss x.s) : InvN ss tr (stepN ss tr x es k) := by
  unfold stepN addN
  split
  · rename_i htr
    split
    · exact h
    · rename_i hne
      obtain ⟨r, hr⟩ := h.first
      have sub : ∀ z ∈ es, z ∈ es ++ [(⟨(nx ss x.s k).1, x.d + 1, some (x.s, k)⟩ : Nd)] := fun z hz => List.mem_append_left _ hz
      refine ⟨?_, fun e he => ?_, fun e he => ?_, ⟨r ++ [_], by rw [hr]; rfl⟩⟩
      · rw [List.map_append, List.nodup_append]
        refine ⟨h.nodup, List.nodup_cons.mpr ⟨List.not_mem_nil, List.nodup_nil⟩, fun a ha b hb => ?_⟩
        obtain rfl := List.mem_singleton.mp hb
        rintro rfl
        exact hne ha
      · rcases List.mem_append.mp he with he | he
        · exact h.si e he
        · obtain rfl := List.mem_singleton.mp he
          obtain ⟨_, _, _, _, _, _, _, _, _, q, _⟩ := wt_nx ok (h.si x hx) hk
          exact q
      · rcases List.mem_append.mp he with he | he
        · exact (h.good e he).more sub
        · obtain rfl := List.mem_singleton.mp he
          refine .inr ⟨x, sub x hx, k, rfl, rfl, hk, rfl, ?_⟩
          cases tr
          · right
            simpa using htr
          · exact .inl rfl
  · exact h
theorem InvN.exp {ss : List (List Wd)} {tr : Bool} {x : Nd} (ok : ∀ sc ∈ ss, okScr sc) : ∀ {ks : List Nat} {es : List Nd}, InvN ss tr es → x ∈ es → (∀ k ∈ ks, k ∈ wt ss x.s) → InvN ss tr (expN ss tr x es ks)
  | [], es, h, _, _ => h
  | k :: r, es, h, hx, hk => by
    obtain ⟨t, ht⟩ := step_pre ss tr x es k
    exact InvN.exp (ks := r) (es := stepN ss tr x es k) ok (h.step ok hx (hk k (List.mem_cons_self ..))) (by rw [ht]; exact List.mem_append_left _ hx) fun j hj => hk j (List.mem_cons_of_mem _ hj)
theorem bfs_inv {ss : List (List Wd)} {tr : Bool} (ok : ∀ sc ∈ ss, okScr sc) : ∀ n, InvN ss tr (bfs ss tr n)
  | 0 => ⟨List.nodup_cons.mpr ⟨List.not_mem_nil, List.nodup_nil⟩, fun e he => by rw [List.mem_singleton.mp he]; exact SI.zero ss, fun e he => by rw [List.mem_singleton.mp he]; exact .inl ⟨rfl, rfl, rfl⟩, ⟨[], rfl⟩⟩
  | n + 1 => by
    have ih := bfs_inv (tr := tr) ok n
    show InvN ss tr (match (bfs ss tr n)[n]? with | some x => expN ss tr x (bfs ss tr n) (wt ss x.s) | none => bfs ss tr n)
    split
    · rename_i x hx
      exact ih.exp ok (List.mem_of_getElem? hx) fun _ h => h
    · exact ih
theorem InvN.len {ss : List (List Wd)} {tr : Bool} {es : List Nd} (h : InvN ss tr es) : es.length ≤ bnd ss := by
  have h1 := nodup_le h.nodup (m := allSt ss) fun x hx => by
    obtain ⟨e, he, rfl⟩ := List.mem_map.mp hx
    exact allSt_mem (h.si e he)
  rw [List.length_map, allSt_len] at h1
  exact h1
/-- no state is deeper than there are states -/
theorem InvN.chain {ss : List (List Wd)} {tr : Bool} {es : List Nd} (h : InvN ss tr es) : ∀ (n : Nat) (e : Nd), e ∈ es → e.d = n → ∀ j, j ≤ n → ∃ x ∈ es, x.d = j
  | 0, e, he, hd, j, hj => ⟨e, he, by omega⟩
  | n + 1, e, he, hd, j, hj => by
    rcases Nat.lt_or_ge j (n + 1) with hl | hl
    · rcases h.good e he with ⟨_, h2, _⟩ | ⟨x, hx, k, _, h2, _⟩
      · omega
      · exact InvN.chain h n x hx (by omega) j (by omega)
    · exact ⟨e, he, by omega⟩
theorem InvN.depth {ss : List (List Wd)} {tr : Bool} {es : List Nd} (h : InvN ss tr es) {e : Nd} (he : e ∈ es) : e.d < es.length := by
  have h1 := nodup_le (l := List.range (e.d + 1)) (m := es.map Nd.d) List.nodup_range fun j hj => by
    obtain ⟨x, hx, hd⟩ := h.chain e.d e he rfl j (by have := List.mem_range.mp hj; omega)
    exact List.mem_map.mpr ⟨x, hx, hd⟩
  rw [List.length_range, List.length_map] at h1
  omega
/-- the layers: depths rise along the list, and none is far ahead -/
def Lay (es : List Nd) (D : Nat) : Prop := es.Pairwise (fun a b => a.d ≤ b.d) ∧ ∀ e ∈ es, e.d ≤ D + 1
theorem lay_step {ss : List (List Wd)} {tr : Bool} {es : List Nd} {x : Nd} {k : Nat} (h : Lay es x.d) : Lay (stepN ss tr x es k) x.d := by
  unfold stepN addN
  split
  · split
    · exact h
    · refine ⟨List.pairwise_append.mpr ⟨h.1, List.pairwise_singleton _ _, fun a ha b hb => ?_⟩, fun e he => ?_⟩
      · obtain rfl := List.mem_singleton.mp hb
        exact h.2 a ha
      · rcases List.mem_append.mp he with he | he
        · exact h.2 e he
        · obtain rfl := List.mem_singleton.mp he
          exact Nat.le_refl _
  · exact h
theorem lay_exp {ss : List (List Wd)} {tr : Bool} {x : Nd} : ∀ {ks : List Nat} {es : List Nd}, Lay es x.d → Lay (expN ss tr x es ks) x.d
  | [], es, h => h
  | k :: r, es, h => lay_exp (ks := r) (lay_step h)
theorem bfs_pre (ss : List (List Wd)) (tr : Bool) (n : Nat) : ∃ t, bfs ss tr (n + 1) = bfs ss tr n ++ t := by
  show ∃ t, (match (bfs ss tr n)[n]? with | some x => expN ss tr x (bfs ss tr n) (wt ss x.s) | none => bfs ss tr n) = _
  split
  · exact exp_pre ..
  · exact ⟨[], (List.append_nil _).symm⟩
theorem bfs_lay (ss : List (List Wd)) (tr : Bool) : ∀ n, (bfs ss tr n).Pairwise (fun a b => a.d ≤ b.d) ∧ ∀ x, (bfs ss tr n)[n]? = some x → Lay (bfs ss tr n) x.d
  | 0 => ⟨List.pairwise_singleton _ _, fun x hx => by
      cases hx
      exact ⟨List.pairwise_singleton _ _, fun e he => by rw [List.mem_singleton.mp he]; exact Nat.zero_le _⟩⟩
  | n + 1 => by
    obtain ⟨h1, h2⟩ := bfs_lay ss tr n
    have key : ∀ x, (bfs ss tr n)[n]? = some x → Lay (bfs ss tr (n + 1)) x.d := fun x hx => by
      show Lay (match (bfs ss tr n)[n]? with | some x => expN ss tr x (bfs ss tr n) (wt ss x.s) | none => bfs ss tr n) x.d
      rw [hx]
      exact lay_exp (h2 x hx)
    cases hx : (bfs ss tr n)[n]? with
    | none =>
      have e : bfs ss tr (n + 1) = bfs ss tr n := by
        show (match (bfs ss tr n)[n]? with | some x => expN ss tr x (bfs ss tr n) (wt ss x.s) | none => bfs ss tr n) = _
        rw [hx]
      rw [e]
      refine ⟨h1, fun x h => ?_⟩
      have := (List.getElem?_eq_some_iff.mp h).1
      have := List.getElem?_eq_none_iff.mp hx
      omega
    | some x =>
      have lx := key x hx
      refine ⟨lx.1, fun y hy => ⟨lx.1, fun e he => ?_⟩⟩
      obtain ⟨t, ht⟩ := bfs_pre ss tr n
      have hn : n < (bfs ss tr n).length := (List.getElem?_eq_some_iff.mp hx).1
      have hx' : (bfs ss tr (n + 1))[n]? = some x := by rw [ht, List.getElem?_append_left hn]; exact hx
      obtain ⟨i1, g1⟩ := List.getElem?_eq_some_iff.mp hx'
      obtain ⟨i2, g2⟩ := List.getElem?_eq_some_iff.mp hy
      have hxy : x.d ≤ y.d := by
        have := List.pairwise_iff_getElem.mp lx.1 n (n + 1) i1 i2 (by omega)
        rw [g1, g2] at this
        exact this
      have := lx.2 e he
      omega
/-- a run over the states by numbers: where it ends -/
def run (ss : List (List Wd)) : List Row → List Nat → List Row
  | xs, [] => xs
  | xs, k :: r => run ss (nx ss xs k).1 r
end C83

set_option Elab.async false
set_option maxRecDepth 100000
set_option maxHeartbeats 4000000
set_option linter.all false
/-! Dicts whose keys are tuples, nested to any depth. -/
namespace My
open PySem PySem.Spec PyProof.Rows L2
/-- an entry: the key, its tuple's address, the value -/
abbrev NE := NestedKey × Addr × V
def RelE (p : NE) (q : NestedKey × Addr × Value) : Prop := p.1 = q.1 ∧ p.2.1 = q.2.1 ∧ RelV p.2.2 q.2.2
/-- the dict's own object -/
def NDO (P : Program) (w : World) (a : Addr) (kvs : List NE) : HO := .ext fun h => (a == sysModules) = false ∧ kvs.length ≤ sizeLine ∧ ∃ xs, Paired RelE kvs xs ∧ ∃ o es ep, h.get? a = some o ∧ o.ExactDict ∧ o.data = .dict es ep ∧ es.toList = xs.map (entryOfKey (nestedKind P w))
mutual
/-- the value is this key -/
inductive KtV (H : Hp) : V → NestedKey → Prop
  | non : KtV H .non .none
  | bl (b : Bool) : KtV H (.bl b) (.num (if b = true then 1 else 0))
  | int (i : Int) : KtV H (.int i) (.num i)
  | str (x : Str) : KtV H (.str x) (.text x)
  | tup {a : Addr} {xs : List V} {ks : List NestedKey} : H a = some (.tup xs) → KtAll H xs ks → KtV H (.ref a) (.tup ks)
inductive KtAll (H : Hp) : List V → List NestedKey → Prop
  | nil : KtAll H [] []
  | cons {v : V} {vs : List V} {k : NestedKey} {ks : List NestedKey} : KtV H v k → KtAll H vs ks → KtAll H (v :: vs) (k :: ks)
end
mutual
theorem KtV.mono {H H' : Hp} (s : ∀ a xs, H a = some (.tup xs) → H' a = some (.tup xs)) : ∀ {v : V} {k : NestedKey}, KtV H v k → KtV H' v k
  | _, _, .non => .non
  | _, _, .bl b => .bl b
  | _, _, .int i => .int i
  | _, _, .str x => .str x
  | _, _, .tup e q => .tup (s _ _ e) (KtAll.mono s q)
theorem KtAll.mono {H H' : Hp} (s : ∀ a xs, H a = some (.tup xs) → H' a = some (.tup xs)) : ∀ {vs : List V} {ks : List NestedKey}, KtAll H vs ks → KtAll H' vs ks
  | _, _, .nil => .nil
  | _, _, .cons h q => .cons (KtV.mono s h) (KtAll.mono s q)
end
section
variable {P : Program} {w : World} {H : Hp} {h : Heap} {a : Addr}
mutual
theorem KtV.is (ok : HOk P w H h) : ∀ {v : V} {k : NestedKey}, KtV H v k → ∀ {u : Value}, RelV v u → NestedIs h k u
  | _, _, .non, _, r => by
    cases (show _ = Value.none from r)
    exact .none
  | _, _, .bl b, _, r => by
    cases (show _ = Value.bool b from r)
    exact .bool rfl
  | _, _, .int i, _, r => by
    obtain ⟨t, rfl⟩ := r
    exact .int i t
  | _, _, .str x, _, r => by
    obtain ⟨t, rfl⟩ := r
    exact .text x t
  | _, _, .tup (a := a) e q, _, r => by
    cases (show _ = Value.ref a from r)
    obtain ⟨_, its, rv, o, h1, h2, n, h3⟩ := (show ObjOk P w H h a (.tup _) from ok a _ e)
    exact .tup h1 h2 h3 (by simpa using KtAll.is ok q rv)
theorem KtAll.is (ok : HOk P w H h) : ∀ {vs : List V} {ks : List NestedKey}, KtAll H vs ks → ∀ {us : List Value}, Vals vs us → NestedAll h ks us
  | _, _, .nil, _, .nil => .nil
  | _, _, .cons h q, _, .cons r rr => .cons (KtV.is ok h r) (KtAll.is ok q rr)
end
/-- at a stands a dict with these entries -/
def DN (P : Program) (w : World) (H : Hp) (a : Addr) (kvs : List NE) : Prop := H a = some (NDO P w a kvs) ∧ (kvs.map (·.1)).Nodup ∧ ∀ e ∈ kvs, KtV H (.ref e.2.1) e.1 ∧ e.1.depth ≤ 8
theorem rel_keys : ∀ {kvs : List NE} {xs : List (NestedKey × Addr × Value)}, Paired RelE kvs xs → xs.map (·.1) = kvs.map (·.1)
  | _, _, .nil => rfl
  | _, _, .cons h q => by rw [List.map_cons, List.map_cons, rel_keys q, h.1]
theorem rel_mem : ∀ {kvs : List NE} {xs : List (NestedKey × Addr × Value)}, Paired RelE kvs xs → ∀ x ∈ xs, ∃ e ∈ kvs, RelE e x
  | _, _, .nil, x, hx => nomatch hx
  | _, _, .cons h q, x, hx => by
    rcases List.mem_cons.mp hx with rfl | hx
    · exact ⟨_, List.mem_cons_self .., h⟩
    · obtain ⟨e, he, r⟩ := rel_mem q x hx
      exact ⟨e, List.mem_cons_of_mem _ he, r⟩
def getN (kvs : List NE) (k : NestedKey) : Option V := (kvs.find? fun e => decide (e.1 = k)).map (·.2.2)
theorem rel_get {k : NestedKey} : ∀ {kvs : List NE} {xs : List (NestedKey × Addr × Value)}, Paired RelE kvs xs → RelO (getN kvs k) ((atKey xs k).map (·.2))
  | _, _, .nil => trivial
  | _, _, .cons (a := e) (b := x) h q => by
    obtain ⟨e1, e2, e3⟩ := h
    have ih := rel_get (k := k) q
    unfold getN atKey
    rw [List.find?_cons, List.find?_cons, ← e1]
    by_cases hk : e.1 = k
    · rw [decide_eq_true hk]
      exact e3
    · rw [decide_eq_false hk]
      exact ih
theorem nd_rd (ok : HOk P w H h) {kvs : List NE} (d : DN P w H a kvs) : (a == sysModules) = false ∧ kvs.length ≤ sizeLine ∧ ∃ xs, Paired RelE kvs xs ∧ h.DictOfH (nestedKind P w) a xs := by
  obtain ⟨e, hn, hk⟩ := d
  obtain ⟨⟨h1, h2, xs, r, o, es, ep, q1, q2, q3, q4⟩, _, _⟩ := (show ObjOk P w H h a (NDO P w a kvs) from ok a _ e)
  refine ⟨h1, h2, xs, r, o, es, ep, q1, q2, q3, q4, fun x hx => ?_, by rw [rel_keys r]; exact hn⟩
  obtain ⟨e, he, e1, e2, _⟩ := rel_mem r x hx
  obtain ⟨k1, k2⟩ := hk e he
  rw [← e1, ← e2]
  exact ⟨k1.is ok rfl, k2⟩
def putN (kvs : List NE) (k : NestedKey) (b : Addr) (v : V) : List NE := if (getN kvs k).isSome = true then kvs.map (fun e => if e.1 = k then (e.1, e.2.1, v) else e) else kvs ++ [(k, b, v)]
theorem rel_put {k : NestedKey} {b : Addr} {v : V} {u : Value} {kvs : List NE} {xs : List (NestedKey × Addr × Value)} (r : Paired RelE kvs xs) (rv : RelV v u) : Paired RelE (putN kvs k b v) (storedH xs k b u) := by
  have q := (rel_get (k := k) r).isSome_eq
  rw [Option.isSome_map] at q
  unfold putN storedH
  rw [q]
  split
  · have : ∀ {kvs : List NE} {xs : List (NestedKey × Addr × Value)}, Paired RelE kvs xs → Paired RelE (kvs.map (fun e => if e.1 = k then (e.1, e.2.1, v) else e)) (xs.map (putAt k u)) := by
      intro kvs xs r
      induction r with
      | nil => exact .nil
      | @cons e x es xs h t ih =>
        obtain ⟨e1, e2, e3⟩ := h
        refine .cons ?_ ih
        unfold putAt
        dsimp only
        rw [← e1]
        by_cases hk : e.1 = k
        · rw [if_pos hk, if_pos hk]
          exact ⟨rfl, e2, rv⟩
        · rw [if_neg hk, if_neg hk]
          exact ⟨e1, e2, e3⟩
    exact this r
  · have : ∀ {kvs : List NE} {xs : List (NestedKey × Addr × Value)}, Paired RelE kvs xs → Paired RelE (kvs ++ [(k, b, v)]) (xs ++ [(k, b, u)]) := by
      intro kvs xs r
      induction r with
      | nil => exact .cons ⟨rfl, rfl, rv⟩ .nil
      | cons h t ih => exact .cons h ih
    exact this r
theorem getN_isSome {kvs : List NE} {k : NestedKey} : (getN kvs k).isSome = true ↔ k ∈ kvs.map (·.1) := by
  unfold getN
  rw [Option.isSome_map, List.find?_isSome, List.mem_map]
  simp only [decide_eq_true_eq]
theorem putN_len (kvs : List NE) (k : NestedKey) (b : Addr) (v : V) : (putN kvs k b v).length ≤ kvs.length + 1 := by
  unfold putN
  split
  · rw [List.length_map]
    omega
  · rw [List.length_append]
    exact Nat.le_refl _
theorem putN_nodup {kvs : List NE} (k : NestedKey) (b : Addr) (v : V) (hn : (kvs.map (·.1)).Nodup) : ((putN kvs k b v).map (·.1)).Nodup := by
  unfold putN
  split
  · have : (kvs.map (fun e => if e.1 = k then (e.1, e.2.1, v) else e)).map (·.1) = kvs.map (·.1) := by
      rw [List.map_map]
      refine List.map_congr_left fun e _ => ?_
      show (if e.1 = k then (e.1, e.2.1, v) else e).1 = e.1
      split <;> rfl
    rw [this]
    exact hn
  · rename_i hg
    rw [List.map_append, List.nodup_append]
    refine ⟨hn, List.nodup_cons.mpr ⟨List.not_mem_nil, List.nodup_nil⟩, fun x hx y hy => ?_⟩
    obtain rfl := List.mem_singleton.mp hy
    rintro rfl
    exact hg (getN_isSome.mpr hx)
theorem putN_mem {kvs : List NE} {k : NestedKey} {b : Addr} {v : V} {e : NE} (he : e ∈ putN kvs k b v) : (∃ e' ∈ kvs, e'.1 = e.1 ∧ e'.2.1 = e.2.1) ∨ (e.1 = k ∧ e.2.1 = b) := by
  unfold putN at he
  split at he
  · obtain ⟨e', h', rfl⟩ := List.mem_map.mp he
    refine .inl ⟨e', h', ?_⟩
    split <;> exact ⟨rfl, rfl⟩
  · rcases List.mem_append.mp he with he | he
    · exact .inl ⟨e, he, rfl, rfl⟩
    · obtain rfl := List.mem_singleton.mp he
      exact .inr ⟨rfl, rfl⟩
/-- the dict behind a store -/
theorem DN.put {kvs : List NE} {k : NestedKey} {b : Addr} {v : V} (d : DN P w H a kvs) (hk : KtV H (.ref b) k) (hd : k.depth ≤ 8) : DN P w (L2.upd H a (NDO P w a (putN kvs k b v))) a (putN kvs k b v) := by
  obtain ⟨e, hn, hq⟩ := d
  have up : ∀ (c : Addr) (xs : List V), H c = some (.tup xs) → L2.upd H a (NDO P w a (putN kvs k b v)) c = some (.tup xs) := fun c xs ec => by
    rw [upd_ne (ne_of ec e (fun z => by unfold NDO at z; cases z))]
    exact ec
  refine ⟨upd_same, putN_nodup k b v hn, fun x hx => ?_⟩
  rcases putN_mem hx with ⟨e', h', e1, e2⟩ | ⟨e1, e2⟩
  · obtain ⟨q1, q2⟩ := hq e' h'
    rw [← e1, ← e2]
    exact ⟨q1.mono up, q2⟩
  · rw [e1, e2]
    exact ⟨hk.mono up, hd⟩
theorem DN.mono {H' : Hp} {kvs : List NE} (d : DN P w H a kvs) (e : H' a = some (NDO P w a kvs)) (s : ∀ b xs, H b = some (.tup xs) → H' b = some (.tup xs)) : DN P w H' a kvs :=
  ⟨e, d.2.1, fun x hx => ⟨(d.2.2 x hx).1.mono s, (d.2.2 x hx).2⟩⟩
theorem DN.same {H' : Hp} {kvs : List NE} (d : DN P w H a kvs) (s : Same H H') : DN P w H' a kvs := d.mono (s _ _ d.1) fun b xs e => s _ _ e
end
section
variable {X : Cx} {pins : List (Addr × Obj)} {σ : L2.St} {H : Hp} {s : Shared} {a b : Addr} {k : NestedKey} {kvs : List NE} {A : Around} {E : Value → Shared → Prop}
theorem nd_room (hu : A.units + 64 < cLine) : (nestedKind X.prog X.w).room A.in1 := by
  show A.in1.units + 8 < cLine
  have : A.in1.units = A.units + 1 := rfl
  omega
theorem nd_key (I : Inv X pins σ H s) (hk : KtV H (.ref b) k) (hd : k.depth ≤ 8) : (nestedKind X.prog X.w).is s.heap k b := ⟨hk.is I.hok rfl, hd⟩
theorem nd_getItem {v : V} {Q : Value → Shared → Prop} (hu : A.units + 64 < cLine) (I : Inv X pins σ H s) (d : DN X.prog X.w H a kvs) (hk : KtV H (.ref b) k) (hd : k.depth ≤ 8) (g : getN kvs k = some v)
    (h : ∀ w' s', Inv X pins σ H s' → RelV v w' → Q w' s') : wpAny (model X.prog X.w) A (getItem (.ref a) (.ref b)) Q E s := by
  obtain ⟨_, _, xs, r, dd⟩ := nd_rd I.hok d
  obtain ⟨w', hw, rw'⟩ := RelO.some_of (v := v) (o := (atKey xs k).map (·.2)) (by rw [← g]; exact rel_get r)
  obtain ⟨p, hp, hp2⟩ := Option.map_eq_some_iff.mp hw
  refine wpAny_getItem_heap (nd_room hu) (nd_key I hk hd) dd hp ?_
  rw [hp2]
  exact h w' _ (I.tok _) rw'
theorem nd_in {Q : Value → Shared → Prop} (hu : A.units + 64 < cLine) (I : Inv X pins σ H s) (d : DN X.prog X.w H a kvs) (hk : KtV H (.ref b) k) (hd : k.depth ≤ 8)
    (h : ∀ s', Inv X pins σ H s' → Q (.bool (getN kvs k).isSome) s') : wpAny (model X.prog X.w) A (compareOp .In (.ref b) (.ref a)) Q E s := by
  obtain ⟨hs, _, xs, r, dd⟩ := nd_rd I.hok d
  refine wpAny_in_heap (nd_room hu) (nd_key I hk hd) hs dd ?_
  have q := (rel_get (k := k) r).isSome_eq
  rw [Option.isSome_map] at q
  rw [← q]
  exact h _ (I.tok _)
theorem nd_notIn {Q : Value → Shared → Prop} (hu : A.units + 64 < cLine) (I : Inv X pins σ H s) (d : DN X.prog X.w H a kvs) (hk : KtV H (.ref b) k) (hd : k.depth ≤ 8)
    (h : ∀ s', Inv X pins σ H s' → Q (.bool (!(getN kvs k).isSome)) s') : wpAny (model X.prog X.w) A (compareOp .NotIn (.ref b) (.ref a)) Q E s := by
  obtain ⟨hs, _, xs, r, dd⟩ := nd_rd I.hok d
  refine wpAny_notIn_heap (nd_room hu) (nd_key I hk hd) hs dd ?_
  have q := (rel_get (k := k) r).isSome_eq
  rw [Option.isSome_map] at q
  rw [← q]
  exact h _ (I.tok _)
/-- the dict's object as it stands behind a change -/
theorem nd_ok {P : Program} {w : World} {H' : Hp} {h' : Heap} {kvs : List NE} {xs : List (NestedKey × Addr × Value)} (hs : (a == sysModules) = false) (z : kvs.length ≤ sizeLine) (r : Paired RelE kvs xs) (dd : h'.DictOfH (nestedKind P w) a xs) : ObjOk P w H' h' a (NDO P w a kvs) := by
  obtain ⟨o, es, ep, q1, q2, q3, q4, _⟩ := dd
  refine ⟨⟨hs, z, xs, r, o, es, ep, q1, q2, q3, q4⟩, ⟨o, q1⟩, ?_⟩
  rintro h1 h2 ⟨hs, z, xs, r, o, es, ep, q1, q⟩ st
  exact ⟨hs, z, xs, r, o, es, ep, st _ q1, q⟩
theorem nd_setItem {v : V} {u : Value} {Q : Unit → Shared → Prop} (hu : A.units + 64 < cLine) (I : Inv X pins σ H s) (d : DN X.prog X.w H a kvs) (hk : KtV H (.ref b) k) (hd : k.depth ≤ 8) (hz : kvs.length < sizeLine) (rv : RelV v u)
    (h : ∀ s', Inv X pins σ (upd H a (NDO X.prog X.w a (putN kvs k b v))) s' → Q () s') : wpAny (model X.prog X.w) A (setItem (.ref a) (.ref b) u) Q E s := by
  obtain ⟨hs, z, xs, r, dd⟩ := nd_rd I.hok d
  refine wpAny_setItem_heap (hsz := by rw [← Paired.length r]; exact z) (nd_room hu) (nd_key I hk hd) dd fun h' dd' hsb => h _ ?_
  have he : ∃ q, h'.get? a = some q := let ⟨q, _, _, hq, _⟩ := dd'; ⟨q, hq⟩
  refine d_write I (by rw [d.1]; exact True.intro) hsb he (nd_ok hs (by have := putN_len kvs k b v; omega) (rel_put r rv) dd')
end
/-! ### readings and rules -/
/-- the dict that stands at x, the key that stands at y -/
def NdK (P : Program) (w : World) (H : Hp) (x y : V) (kvs : List NE) (k : NestedKey) (a b : Addr) : Prop := x = .ref a ∧ y = .ref b ∧ DN P w H a kvs ∧ KtV H (.ref b) k ∧ k.depth ≤ 8
def tNGet (P : Program) (w : World) (td ty : TE) : TE := fun σ H Q => td σ H fun x H1 => ty σ H1 fun y H2 => ∃ kvs k a b v, NdK P w H2 x y kvs k a b ∧ getN kvs k = some v ∧ Q v H2
def tNIn (P : Program) (w : World) (ty td : TE) : TE := fun σ H Q => ty σ H fun y H1 => td σ H1 fun x H2 => ∃ kvs k a b, NdK P w H2 x y kvs k a b ∧ Q (.bl (getN kvs k).isSome) H2
def tNNotIn (P : Program) (w : World) (ty td : TE) : TE := fun σ H Q => ty σ H fun y H1 => td σ H1 fun x H2 => ∃ kvs k a b, NdK P w H2 x y kvs k a b ∧ Q (.bl (!(getN kvs k).isSome)) H2
def sNPut (P : Program) (w : World) (td ty tv : TE) : TS := fun D σ H => tv σ H fun v H1 => td σ H1 fun x H2 => ty σ H2 fun y H3 => ∃ kvs k a b, NdK P w H3 x y kvs k a b ∧ kvs.length < sizeLine ∧ D.nx σ (upd H3 a (NDO P w a (putN kvs k b v)))
/-- {k: v} -/
def tNDisp (P : Program) (w : World) (tk tv : TE) : TE := fun σ H Q => ∀ p, H p = none → tPairs [(tk, tv)] σ (upd H p (NDO P w p [])) fun ps H2 => ∃ y v, ps = [(y, v)] ∧ H2 p = some (NDO P w p []) ∧ ∃ k b, y = .ref b ∧ KtV H2 (.ref b) k ∧ k.depth ≤ 8 ∧ Q (.ref p) (upd H2 p (NDO P w p [(k, b, v)]))
/-- {} -/
def tNNew (P : Program) (w : World) : TE := fun _ H Q => ∀ p, H p = none → Q (.ref p) (upd H p (NDO P w p []))
theorem DN.nil {P : Program} {w : World} {H : Hp} {a : Addr} (e : H a = some (NDO P w a [])) : DN P w H a [] := ⟨e, List.nodup_nil, fun x hx => nomatch hx⟩
theorem nd_empty {P : Program} {w : World} {H : Hp} (h : Heap) (hb : sysModules < h.objs.size) : ObjOk P w H (h.push { cls := .type "dict", data := .dict #[] }) h.objs.size (NDO P w h.objs.size []) :=
  nd_ok (beq_eq_false_iff_ne.mpr (Ne.symm (Nat.ne_of_lt hb))) (Nat.zero_le _) .nil (Heap.DictOfH.new h)
section
variable {X : Cx} {o i e value kx vx : Expr} {pos pos' tpos : Pos} {td ty tv tk : TE}
theorem pe_nget (hu : X.A.units + 64 < cLine) (ho : PE X o td) (hi : PE X i ty) (hs : NoSl i) : PE X (.Subscript o i pos) (tNGet X.prog X.w td ty) := by
  refine ⟨fun pins s σ H Q I h => ?_⟩
  refine subD_of PySem.F.slot_dict_getitem.lookup hs (thn (ho.run pins s σ H _ I h) fun u s1 ⟨x, H1, I1, rx, q1⟩ => thn (hi.run pins s1 σ H1 _ I1 q1) fun iv s2 ⟨y, H2, I2, ry, kvs, k, a, b, v, ⟨ex, ey, d, hk, hd⟩, g, q2⟩ => ?_)
  subst ex ey
  obtain rfl : u = Value.ref a := rx
  obtain rfl : iv = Value.ref b := ry
  obtain ⟨_, _, xs, r, dd⟩ := nd_rd I2.hok d
  exact ⟨dd.typeIs, nd_getItem hu I2 d hk hd g fun w' s3 I3 rw' => ⟨v, H2, I3, rw', q2⟩⟩
theorem pc_nin (hu : X.A.units + 64 < cLine) (hi : PE X i ty) (ho : PE X o td) : PC X .In i o (tNIn X.prog X.w ty td) := by
  refine ⟨fun pins s σ H Q I h => ?_⟩
  refine thn (hi.run pins s σ H _ I h) fun iv s1 ⟨y, H1, I1, ry, q1⟩ => thn (ho.run pins s1 σ H1 _ I1 q1) fun u s2 ⟨x, H2, I2, rx, kvs, k, a, b, ⟨ex, ey, d, hk, hd⟩, q2⟩ => ?_
  subst ex ey
  obtain rfl : u = Value.ref a := rx
  obtain rfl : iv = Value.ref b := ry
  exact nd_in hu I2 d hk hd fun s3 I3 => ⟨.bl _, H2, I3, rfl, q2⟩
theorem pc_nnotin (hu : X.A.units + 64 < cLine) (hi : PE X i ty) (ho : PE X o td) : PC X .NotIn i o (tNNotIn X.prog X.w ty td) := by
  refine ⟨fun pins s σ H Q I h => ?_⟩
  refine thn (hi.run pins s σ H _ I h) fun iv s1 ⟨y, H1, I1, ry, q1⟩ => thn (ho.run pins s1 σ H1 _ I1 q1) fun u s2 ⟨x, H2, I2, rx, kvs, k, a, b, ⟨ex, ey, d, hk, hd⟩, q2⟩ => ?_
  subst ex ey
  obtain rfl : u = Value.ref a := rx
  obtain rfl : iv = Value.ref b := ry
  exact nd_notIn hu I2 d hk hd fun s3 I3 => ⟨.bl _, H2, I3, rfl, q2⟩
theorem ps_nput (hu : X.A.units + 64 < cLine) (ho : PE X o td) (hi : PE X i ty) (hv : PE X value tv) (hs : swapsWith value (some (.Subscript o i pos')) pos.line X.env = pure false) :
    PS X (.Assign [.Subscript o i pos'] value pos) (sNPut X.prog X.w td ty tv) := by
  refine ⟨fun pins s σ H D I h => ?_⟩
  refine wpAny_Assign_Subscript (thn (hv.run pins s σ H _ I h) fun r s1 ⟨v, H1, I1, rv, q1⟩ => thn (ho.run pins s1 σ H1 _ I1 q1) fun u s2 ⟨x, H2, I2, rx, q2⟩ => thn (hi.run pins s2 σ H2 _ I2 q2) fun iv s3 ⟨y, H3, I3, ry, kvs, k, a, b, ⟨ex, ey, d, hk, hd⟩, hz, q3⟩ => ?_) hs
  subst ex ey
  obtain rfl : u = Value.ref a := rx
  obtain rfl : iv = Value.ref b := ry
  exact nd_setItem hu I3 d hk hd hz rv fun s4 I4 => ⟨σ, _, I4, q3⟩
theorem pe_nnew : PE X (.Dict [] [] pos) (tNNew X.prog X.w) := ⟨fun pins s σ H Q I h =>
  wpAny_Dict_empty ⟨.ref s.heap.objs.size, _, I.laid (a := s.heap.objs.size) (o := NDO X.prog X.w s.heap.objs.size []) (t' := s.toks) (fun _ _ q => Heap.get?_push_of_some _ q) (Nat.le_refl _) (nd_empty s.heap I.big), rfl, h _ (I.hok.fresh (Nat.le_refl _))⟩⟩
theorem pe_ndisp (hu : X.A.units + 64 < cLine) (hk : PE X kx tk) (hv : PE X vx tv) : PE X (.Dict [some kx] [vx] pos) (tNDisp X.prog X.w tk tv) := by
  refine ⟨fun pins s σ H Q I q => ?_⟩
  have hn := I.hok.fresh (Nat.le_refl s.heap.objs.size)
  have I1 := I.laid (a := s.heap.objs.size) (o := NDO X.prog X.w s.heap.objs.size []) (h' := s.heap.push { cls := .type "dict", data := .dict #[] }) (t' := s.toks) (fun _ _ q => Heap.get?_push_of_some _ q) (Nat.le_refl _) (nd_empty s.heap I.big)
  have hp : PPs X pos [some kx] [vx] [(tk, tv)] := pps_cons hk hv pps_nil
  have hr : (nestedKind X.prog X.w).room X.A := by
    show X.A.units + 8 < cLine
    omega
  rw [arm_eval_Dict, zip_pairTrees [some kx] [vx] X.env pos rfl rfl, dictDisplay_pairs _ (by intro z; cases z) (by rw [pairTrees_length _ _ _ _ rfl rfl]; show 1 < 17; decide)]
  refine wpAny_bind (wpAny_standAt (wpAny_bind (wpAny_subDictH (knd := nestedKind X.prog X.w) (Q := fun d s' => wpAny (model X.prog X.w) X.A (pure (Value.ref d)) (EP X pins σ Q) X.xe s') hr (by rw [pairTrees_length _ _ _ _ rfl rfl]; show 1 ≤ 15; decide) ?_)))
  refine thn (hp.run pins _ σ _ _ I1 (q _ hn)) fun ws s2 ⟨ps, H2, I2, rel, y, v, ep, e, k, b, ey, hk', hd, q2⟩ => ?_
  · subst ep ey
    cases rel with
    | @cons p q ps qs h t =>
      cases t
      obtain ⟨q1, q2'⟩ := q
      obtain ⟨r1, r2⟩ := h
      obtain rfl : q1 = Value.ref b := r1
      obtain ⟨hs, z, xs, r, dd⟩ := nd_rd I2.hok (DN.nil e)
      cases r
      refine ⟨[(k, b, q2')], ⟨rfl, rfl, nd_key I2 hk' hd, trivial⟩, dd, fun h' tk' dd' hsb => wpAny_pure ?_⟩
      have he : ∃ q, h'.get? s.heap.objs.size = some q := let ⟨q, _, _, hq, _⟩ := dd'; ⟨q, hq⟩
      exact ⟨.ref s.heap.objs.size, _, d_write I2 (by rw [e]; exact True.intro) hsb he (nd_ok (kvs := [(k, b, v)]) hs (by show 1 ≤ sizeLine; decide) (.cons ⟨rfl, rfl, r2⟩ .nil) dd'), rfl, q2⟩
end
end My

set_option Elab.async false
set_option maxRecDepth 100000
set_option maxHeartbeats 4000000
set_option linter.all false
/-! Walks over dicts whose keys are nested tuples; list(d), len(d). -/
namespace My
open PySem PySem.Spec PyProof.Rows L2
section
variable {prog : Program} {w : World} {A : Around} {E : Value → Shared → Prop} {s : Shared}
/-- the raw object at d -/
def RawD (h : Heap) (d : Addr) (es : Array DictEntry) (ep : Nat) : Prop := ∃ o, h.get? d = some o ∧ o.ExactDict ∧ o.data = .dict es ep
theorem raw_walks (hh : A.handled = none) (I d : Addr) (hne : d ≠ I) (es : Array DictEntry) (ep : Nat) :
    Walks prog w A I [I, d] [I] es.size (fun i v => ∃ en, es[i]? = some en ∧ v = en.key) (fun i h => h.IsKeyIter I d i es.size ep ∧ RawD h d es ep) where
  sub := fun b hb => by simp at hb; simp [hb]
  frame := fun _ _ _ st hk => ⟨st.1.at fun o e => hk I (by simp) o e, let ⟨o, ho, r⟩ := st.2; ⟨o, hk d (by simp) o ho, r⟩⟩
  item := fun i s Q E hi st hQ => by
    obtain ⟨o, ho, hc, hd⟩ := id st.2
    obtain ⟨en, hx⟩ : ∃ en, es[i]? = some en := ⟨es[i], by simp [hi]⟩
    refine next_key_item st.1 ho hd rfl hx fun h' hit' hs' => ?_
    exact hQ en.key h' s.toks ⟨en, hx, rfl⟩ ⟨hit', o, hs'.extBut d o hne ho, hc, hd⟩ fun b o hb e => hs'.extBut b o (fun h => hb (by simp [h])) e
  done := fun s Q E st hQ => by
    obtain ⟨o, ho, hc, hd⟩ := id st.2
    exact next_key_end hh st.1 ho hd rfl (Nat.le_refl _) fun h' he' => hQ h' s.toks fun b o hb e => he' b o (fun h => hb (by simp [h])) e
  self := fun _ _ _ _ st hQ => wpAny_pyIter_keyiter st.1 hQ
theorem raw_src {d : Addr} {es : Array DictEntry} {ep : Nat} (lo : (d == sysModules) = false) : PySem.W.KdlSrc prog w "dict" d d es.size (fun i v => ∃ en, es[i]? = some en ∧ v = en.key) (fun h => RawD h d es ep) where
  type := fun s hm => let ⟨o, ho, hc, _⟩ := hm; ⟨o, ho, hc.1⟩
  there := fun _ hm => let ⟨o, ho, _⟩ := hm; ⟨Heap.lt_size ho, Heap.lt_size ho⟩
  keep := fun _ _ hm hk => let ⟨o, ho, r⟩ := hm; ⟨o, hk d (.inl rfl) o ho, r⟩
  notList := by decide
  notTuple := by decide
  hint := fun _ _ s _ hm hq => PySem.W.kdl_hint_dict (let ⟨o, ho, hc, _⟩ := hm; ⟨o, ho, hc.1⟩) hq
  iter := fun _ s hh hm => by
    obtain ⟨o, ho, hc, hd⟩ := id hm
    refine ⟨_, _, (fun _ _ hq => iter_keys lo ho hc hd hq), raw_walks hh _ d (Nat.ne_of_lt (Heap.lt_size ho)) es ep, ⟨⟨_, Heap.get?_push_size _ rfl, rfl, rfl⟩, o, Heap.get?_push_of_some _ ho, hc, hd⟩⟩
theorem len_nd {d : Addr} {xs : List (NestedKey × Addr × Value)} {Q : Value → Shared → Prop} (hd : (d == sysModules) = false) (hm : s.heap.DictOfH (nestedKind prog w) d xs) (hfit : (xs.length : Int) < 2 ^ 63)
    (h : Q (.int xs.length (s.toks + 1)) { s with toks := s.toks + 1 + 1 }) : wpAny (model prog w) A (call (.builtin "len") [.ref d]) Q E s := by
  have hk : s.heap.DictKeyed (nestedKind prog w) d (pairsH xs) := ⟨xs, hm, rfl⟩
  have hl : (pairsH xs).length = xs.length := by
    unfold pairsH
    rw [List.length_map]
  refine Calls.call_function_entry kind_len plain_len entry_len (args_len1 _) ?_
  unfold Builtin.«len»
  refine wpAny_bind (m := oneArg "len" _) (wpAny_pure ?_)
  refine wpAny_bind (m := callSpecial? (.ref d) (Str.ofString "__len__")) (wpAny_callSpecial?_slot (name := Str.ofString "__len__") hm.typeIs F.slot_dict_len (len_keyed hd hk ?_))
  rw [hl]
  show wpAny _ _ _ _ _ { s with toks := s.toks + 1 }
  refine wpAny_bind (wpAny_holding (wpAny_pure ?_))
  refine wpAny_bind (wpAny_letGo ?_)
  show wpAny _ _ (if ((xs.length : Nat) : Int) < 0 then _ else _) _ _ _
  rw [if_neg (by omega)]
  show wpAny _ _ (if ((xs.length : Nat) : Int) ≥ 2 ^ 63 then _ else _) _ _ _
  rw [if_neg (by omega)]
  exact wpAny_bind (wpAny_mkInt (wpAny_pure ⟨_, rfl, h⟩))
end
section
variable {X : Cx} {pins : List (Addr × Obj)} {σ : L2.St} {H : Hp} {s : Shared} {a : Addr} {kvs : List NE}
theorem nd_raw (I : Inv X pins σ H s) (e : H a = some (NDO X.prog X.w a kvs)) : (a == sysModules) = false ∧ kvs.length ≤ sizeLine ∧ ∃ xs es ep, Paired RelE kvs xs ∧ RawD s.heap a es ep ∧ es.toList = xs.map (entryOfKey (nestedKind X.prog X.w)) := by
  obtain ⟨⟨h1, h2, xs, r, o, es, ep, q1, q2, q3, q4⟩, _, _⟩ := (show ObjOk X.prog X.w H s.heap a (NDO X.prog X.w a kvs) from I.hok a _ e)
  exact ⟨h1, h2, xs, es, ep, r, ⟨o, q1, q2, q3⟩, q4⟩
theorem raw_keys : ∀ {kvs : List NE} {xs : List (NestedKey × Addr × Value)}, Paired RelE kvs xs → Vals (kvs.map fun e => V.ref e.2.1) (xs.map fun x => Value.ref x.2.1)
  | _, _, .nil => .nil
  | _, _, .cons h q => .cons (by dsimp only; rw [h.2.1]; rfl) (raw_keys q)
theorem raw_all {xs : List (NestedKey × Addr × Value)} {es : Array DictEntry} (he : es.toList = xs.map (entryOfKey (nestedKind X.prog X.w))) {acc : List Value} (hl : acc.length = es.size) (h : ∀ (j : Nat) (v : Value), acc[j]? = some v → ∃ en, es[j]? = some en ∧ v = en.key) : acc = xs.map fun x => Value.ref x.2.1 := by
  have l1 : es.size = xs.length := size_of_entries he
  refine List.ext_getElem? fun j => ?_
  by_cases hj : j < acc.length
  · obtain ⟨en, e1, e2⟩ := h j _ (List.getElem?_eq_getElem hj)
    have e3 := entry_at he j
    rw [e1, List.getElem?_eq_getElem (show j < xs.length by omega)] at e3
    rw [List.getElem?_eq_getElem hj, List.getElem?_map, List.getElem?_eq_getElem (show j < xs.length by omega), e2]
    cases e3
    rfl
  · rw [List.getElem?_eq_none (by omega), List.getElem?_eq_none (by rw [List.length_map]; omega)]
/-- list(d): its keys -/
theorem call_listN (hcalm : X.calm = true) : CallR X (.type "list") (fun xs H Q => ∃ (a : Addr) (kvs : List NE), xs = [.ref a] ∧ H a = some (NDO X.prog X.w a kvs) ∧ ∀ p, H p = none → Q (.ref p) (upd H p (.lst (kvs.map fun e => V.ref e.2.1)))) := by
  intro pins s σ H xs us Q I r q
  obtain ⟨a, kvs, ex, hd, q⟩ := q
  subst ex
  obtain ⟨u, eu, rx⟩ := vals1 r
  subst eu
  cases rx
  obtain ⟨lo, z, ys, es, ep, pr, raw, he⟩ := nd_raw I hd
  have l1 : es.size = ys.length := size_of_entries he
  have l2 : kvs.length = ys.length := Paired.length pr
  refine PySem.W.kdl_call (raw_src (es := es) (ep := ep) lo) (I.ok.hd hcalm) raw (by omega) fun h' tk acc c' hk hD hacc => ?_
  have ha : acc.toList = ys.map fun x => Value.ref x.2.1 := raw_all (X := X) he (by rw [Array.length_toList]; exact hacc.1) fun j v e => hacc.2 j v (by rw [← Array.getElem?_toList]; exact e)
  refine ⟨.ref s.heap.objs.size, upd H s.heap.objs.size (.lst (kvs.map fun e => V.ref e.2.1)), I.laid (t' := tk) hk (Nat.le_refl _)
    (show ObjOk X.prog X.w _ _ _ (.lst (kvs.map fun e => V.ref e.2.1)) from ⟨by rw [List.length_map]; exact z, acc.toList, c', by rw [ha]; exact raw_keys pr, by rw [Array.toArray_toList]; exact hD⟩), rfl, q _ (I.hok.fresh (Nat.le_refl _))⟩
/-- len(d) -/
theorem call_lenN : CallR X (.builtin "len") (fun xs H Q => ∃ (a : Addr) (kvs : List NE), xs = [.ref a] ∧ DN X.prog X.w H a kvs ∧ Q (.int kvs.length) H) := by
  intro pins s σ H xs us Q I r q
  obtain ⟨a, kvs, ex, hd, q⟩ := q
  subst ex
  obtain ⟨u, eu, rx⟩ := vals1 r
  subst eu
  cases rx
  obtain ⟨lo, z, ys, pr, dd⟩ := nd_rd I.hok hd
  have l2 : kvs.length = ys.length := Paired.length pr
  rw [sizeLine_eq] at z
  refine len_nd lo dd (by omega) ?_
  rw [← l2]
  exact ⟨.int _, H, I.tok _, ⟨_, rfl⟩, q⟩
end
/-! ### for k in d -/
/-- the keys' own tuples, the dict locked -/
def Itn (P : Program) (w : World) (d : Addr) (o : Obj) (kvs : List NE) : It :=
  ⟨fun i H => H d = some (.frz o (NDO P w d kvs)) ∧ i < kvs.length, fun i H x H' => H' = H ∧ ∃ e, kvs[i]? = some e ∧ x = .ref e.2.1, fun i H => H d = some (.frz o (NDO P w d kvs)) ∧ kvs.length ≤ i⟩
section
variable {X : Cx} {pins : List (Addr × Obj)} {σ : L2.St} {H : Hp} {s : Shared} {d : Addr} {o : Obj} {kvs : List NE}
theorem frzN (I : Inv X pins σ H s) (h : H d = some (.frz o (NDO X.prog X.w d kvs))) :
    (d == sysModules) = false ∧ s.heap.get? d = some o ∧ o.ExactDict ∧ ∃ (es : Array DictEntry) (ep : Nat), o.data = .dict es ep ∧ es.size = kvs.length ∧
      ∀ (i : Nat) (e : NE), kvs[i]? = some e → ∃ en : DictEntry, es[i]? = some en ∧ en.key = .ref e.2.1 := by
  obtain ⟨hd, ⟨hs, z, xs, pr, o', es, ep, ho, hx, hdt, he⟩, _⟩ := I.hok d _ h
  rw [hd] at ho
  cases ho
  refine ⟨hs, hd, hx, es, ep, hdt, ?_, fun i e ei => ?_⟩
  · have l1 : es.size = xs.length := size_of_entries he
    have l2 : kvs.length = xs.length := Paired.length pr
    omega
  · obtain ⟨b, hb, e1, e2, _⟩ := L2.paired_get pr ei
    have q := entry_at he i
    rw [hb] at q
    exact ⟨_, q, by show Value.ref b.2.1 = _; rw [e2]⟩
end
section
variable {P : Program} {w : World} {K : PySem.W.Frag} {tg : Expr} {d : Addr} {o : Obj} {es : Array DictEntry} {ep : Nat}
theorem turn_keysN {kvs : List NE} (it : Addr) (hod : o.data = .dict es ep) : Turn P w K tg (Itn P w d o kvs) [it] it (fun i h => h.IsKeyIter it d i kvs.length ep) where
  mem := by simp
  obj := fun i h st b hb => by
    have e : b = it := by simpa using hb
    subst e
    obtain ⟨oi, e, c, dd⟩ := st
    exact ⟨oi, e, fun v z => by rw [dd] at z; cases z⟩
  keep := fun i h h' st k => st.at fun oi e => k it (by simp) oi e
  item := by
    intro X hP hw hK hc i pins s σ H E I hf st hg
    subst hP hw hK
    obtain ⟨hd, hi⟩ := hg
    obtain ⟨f0, f1, f2, f3, f4, f5⟩ := hf it (by simp)
    obtain ⟨hs, hgd, hx, es', ep', hdt, hsz, ent⟩ := frzN I hd
    obtain ⟨rfl, rfl⟩ := dict_ep hod hdt
    obtain ⟨e, hkv⟩ : ∃ p, kvs[i]? = some p := ⟨kvs[i], List.getElem?_eq_getElem hi⟩
    obtain ⟨en, hen, hkey⟩ := ent i e hkv
    refine next_key_item st hgd hdt hsz hen fun h' st' sb => ?_
    have I1 : Inv X pins σ H { s with heap := h' } := I.turned (t' := s.toks) (fun b ob hb e => (sb.2 b hb).trans e) f0 f1 f3 f4 f5
    obtain ⟨oi, e', c, dd⟩ := id st'
    exact ⟨en.key, rfl, go_of (s := { s with heap := h' }) e' c dd (by decide) ⟨.ref e.2.1, H, I1, hkey, ⟨rfl, e, hkv, rfl⟩, st', fun b hb => (hf b hb).1⟩⟩
  done := by
    intro X hP hw hK hc i pins s σ H E I hf st hg
    subst hP hw hK
    obtain ⟨hd, hi⟩ := hg
    obtain ⟨f0, f1, f2, f3, f4, f5⟩ := hf it (by simp)
    obtain ⟨hs, hgd, hx, es', ep', hdt, hsz, ent⟩ := frzN I hd
    obtain ⟨rfl, rfl⟩ := dict_ep hod hdt
    exact next_key_end (I.ok.hd hc) st hgd hdt hsz hi fun h' eb => ⟨rfl, I.turned (t' := s.toks) (fun b ob hb e => eb b ob hb e) f0 f1 f3 f4 f5⟩
  self := fun A i s Q E st h => wpAny_pyIter_keyiter st h
end
def iKeysN (P : Program) (w : World) (td : TE) : TI := fun σ H R => td σ H fun x H1 => ∃ d o kvs, x = .ref d ∧ H1 d = some (.frz o (NDO P w d kvs)) ∧ R (Itn P w d o kvs) H1
theorem pi_keysN {X : Cx} {tg e : Expr} {td : TE} (he : PE X e td) : PI X tg e (iKeysN X.prog X.w td) := by
  refine ⟨fun pins s σ H R I h => ?_⟩
  refine thn (he.run pins s σ H _ I h) fun u s1 ⟨x, H1, I1, rx, d, o, kvs, ex, hd, q⟩ => ?_
  subst ex
  obtain rfl : u = Value.ref d := rx
  obtain ⟨hs, hgd, hx, es, ep, hdt, hsz, ent⟩ := frzN I1 hd
  refine iter_keys hs hgd hx hdt (pi_one (tk := s1.toks) I1 _ (turn_keysN _ hdt) ⟨_, Heap.get?_push_size _ rfl, rfl, ?_⟩ q)
  rw [hsz] <;> rfl
def YNt (kvs : List NE) : Nat → Hp → V → Hp → Prop := fun i H x H' => H' = H ∧ ∃ e, kvs[i]? = some e ∧ x = .ref e.2.1
theorem walk_keysN {P : Program} {w : World} {d : Addr} {o : Obj} {kvs : List NE} : Walk (Itn P w d o kvs) kvs.length (fun H => H d = some (.frz o (NDO P w d kvs))) (YNt kvs) :=
  ⟨fun i H hi h => ⟨h, hi⟩, fun H h => ⟨h, Nat.le_refl _⟩, fun i H v H' hi h y => y⟩
end My

set_option Elab.async false
set_option maxRecDepth 100000
set_option maxHeartbeats 4000000
set_option linter.all false
/-! Data made of tuples alone: nothing that changes lies in it. -/
namespace My
open PySem PySem.Spec PyProof.Rows L2
mutual
inductive Tp (H : Hp) : V → PyData → Prop
  | non : Tp H .non .none
  | bl (b : Bool) : Tp H (.bl b) (.bool b)
  | int (i : Int) : Tp H (.int i) (.int i)
  | str (x : Str) : Tp H (.str x) (.str x)
  | tup {a : Addr} {xs : List V} {ds : List PyData} : H a = some (.tup xs) → TpAll H xs ds → Tp H (.ref a) (.tuple ds)
inductive TpAll (H : Hp) : List V → List PyData → Prop
  | nil : TpAll H [] []
  | cons {v : V} {vs : List V} {d : PyData} {ds : List PyData} : Tp H v d → TpAll H vs ds → TpAll H (v :: vs) (d :: ds)
end
/-- the tuples stay -/
def KeepT (H H' : Hp) : Prop := ∀ a xs, H a = some (.tup xs) → H' a = some (.tup xs)
theorem KeepT.refl (H : Hp) : KeepT H H := fun _ _ e => e
theorem KeepT.trans {H H1 H2 : Hp} (a : KeepT H H1) (b : KeepT H1 H2) : KeepT H H2 := fun x o e => b _ _ (a _ _ e)
theorem KeepT.same {H H' : Hp} (s : Same H H') : KeepT H H' := fun a xs e => s _ _ e
theorem KeepT.lst {H : Hp} {a : Addr} {xs : List V} {o : HO} (e : H a = some (.lst xs)) : KeepT H (upd H a o) := fun b ys eb => by
  rw [upd_ne (ne_of eb e (fun z => by cases z))]
  exact eb
theorem KeepT.ext {H : Hp} {a : Addr} {φ : Heap → Prop} {o : HO} (e : H a = some (.ext φ)) : KeepT H (upd H a o) := fun b ys eb => by
  rw [upd_ne (ne_of eb e (fun z => by cases z))]
  exact eb
theorem KeepT.frz {H : Hp} {a : Addr} {ob : Obj} {u o : HO} (e : H a = some (.frz ob u)) : KeepT H (upd H a o) := fun b ys eb => by
  rw [upd_ne (ne_of eb e (fun z => by cases z))]
  exact eb
theorem KeepT.but {H H' : Hp} {m : Addr} {xs : List V} (b : But m H H') (e : H m = some (.lst xs)) : KeepT H H' := fun c ys ec => b _ _ ec (ne_of ec e (fun z => by cases z))
mutual
theorem Tp.mono {H H' : Hp} (s : KeepT H H') : ∀ {v : V} {d : PyData}, Tp H v d → Tp H' v d
  | _, _, .non => .non
  | _, _, .bl b => .bl b
  | _, _, .int i => .int i
  | _, _, .str x => .str x
  | _, _, .tup e q => .tup (s _ _ e) (TpAll.mono s q)
theorem TpAll.mono {H H' : Hp} (s : KeepT H H') : ∀ {vs : List V} {ds : List PyData}, TpAll H vs ds → TpAll H' vs ds
  | _, _, .nil => .nil
  | _, _, .cons h q => .cons (Tp.mono s h) (TpAll.mono s q)
end
/-- no tuple stands at m -/
def NoT (H : Hp) (m : Addr) : Prop := ∀ xs, H m ≠ some (.tup xs)
theorem NoT.lst {H : Hp} {m : Addr} {xs : List V} (e : H m = some (.lst xs)) : NoT H m := fun ys z => by
  rw [e] at z
  cases z
theorem NoT.none {H : Hp} {m : Addr} (e : H m = none) : NoT H m := fun ys z => by
  rw [e] at z
  cases z
mutual
theorem Tp.at {H : Hp} {m : Addr} (n : NoT H m) : ∀ {v : V} {d : PyData}, Tp H v d → At m H v d
  | _, _, .non => .non
  | _, _, .bl b => .bl b
  | _, _, .int i => .int i
  | _, _, .str x => .str x
  | _, _, .tup e q => .tup (fun z => n _ (z ▸ e)) e (TpAll.at n q)
theorem TpAll.at {H : Hp} {m : Addr} (n : NoT H m) : ∀ {vs : List V} {ds : List PyData}, TpAll H vs ds → AtAll m H vs ds
  | _, _, .nil => .nil
  | _, _, .cons h q => .cons (Tp.at n h) (TpAll.at n q)
end
mutual
/-- tuples alone -/
def isT : PyData → Bool
  | .none => true
  | .bool _ => true
  | .int _ => true
  | .str _ => true
  | .tuple ds => isTAll ds
  | .list _ => false
  | .dict _ => false
def isTAll : List PyData → Bool
  | [] => true
  | d :: ds => isT d && isTAll ds
end
mutual
theorem At.tp {H : Hp} {m : Addr} : ∀ {v : V} {d : PyData}, At m H v d → isT d = true → Tp H v d
  | _, _, .non, _ => .non
  | _, _, .bl b, _ => .bl b
  | _, _, .int i, _ => .int i
  | _, _, .str x, _ => .str x
  | _, _, .tup n e q, h => .tup e (AtAll.tp q (by simpa only [isT] using h))
  | _, _, .lst n e q, h => by simp [isT] at h
theorem AtAll.tp {H : Hp} {m : Addr} : ∀ {vs : List V} {ds : List PyData}, AtAll m H vs ds → isTAll ds = true → TpAll H vs ds
  | _, _, .nil, _ => .nil
  | _, _, .cons h q, e => by
    simp only [isTAll, Bool.and_eq_true] at e
    exact .cons (At.tp h e.1) (AtAll.tp q e.2)
end
mutual
/-- the key that such data is -/
def keyOf : PyData → NestedKey
  | .none => .none
  | .bool b => .num (if b = true then 1 else 0)
  | .int i => .num i
  | .str x => .text x
  | .tuple ds => .tup (keysOf ds)
  | .list _ => .none
  | .dict _ => .none
def keysOf : List PyData → List NestedKey
  | [] => []
  | d :: ds => keyOf d :: keysOf ds
end
mutual
theorem Tp.key {H : Hp} : ∀ {v : V} {d : PyData}, Tp H v d → KtV H v (keyOf d)
  | _, _, .non => .non
  | _, _, .bl b => .bl b
  | _, _, .int i => .int i
  | _, _, .str x => .str x
  | _, _, .tup e q => .tup e (TpAll.key q)
theorem TpAll.key {H : Hp} : ∀ {vs : List V} {ds : List PyData}, TpAll H vs ds → KtAll H vs (keysOf ds)
  | _, _, .nil => .nil
  | _, _, .cons h q => .cons (Tp.key h) (TpAll.key q)
end
theorem TpAll.length {H : Hp} : ∀ {vs : List V} {ds : List PyData}, TpAll H vs ds → vs.length = ds.length
  | _, _, .nil => rfl
  | _, _, .cons _ q => by rw [List.length_cons, List.length_cons, TpAll.length q]
theorem TpAll.get {H : Hp} : ∀ {vs : List V} {ds : List PyData} {i : Nat} {v : V}, TpAll H vs ds → vs[i]? = some v → ∃ d, ds[i]? = some d ∧ Tp H v d
  | _, _, _, _, .nil, e => by simp at e
  | _, _, 0, _, .cons h _, e => by
    simp at e
    subst e
    exact ⟨_, rfl, h⟩
  | _, _, i + 1, v, .cons _ q, e => by
    obtain ⟨d, h1, h2⟩ := TpAll.get (i := i) (v := v) q (by simpa using e)
    exact ⟨d, by simpa using h1, h2⟩
theorem TpAll.append {H : Hp} {v : V} {d : PyData} : ∀ {vs : List V} {ds : List PyData}, TpAll H vs ds → Tp H v d → TpAll H (vs ++ [v]) (ds ++ [d])
  | _, _, .nil, h => .cons h .nil
  | _, _, .cons h q, e => .cons h (TpAll.append q e)
theorem Tp.ref {H : Hp} {v : V} {ds : List PyData} (h : Tp H v (.tuple ds)) : ∃ a xs, v = .ref a ∧ H a = some (.tup xs) ∧ TpAll H xs ds := by
  cases h with
  | tup e q => exact ⟨_, _, rfl, e, q⟩
end My

set_option Elab.async false
set_option maxRecDepth 100000
set_option maxHeartbeats 4000000
set_option linter.all false
/-! sorted(xs) of data that are alike, nested to any depth. -/
namespace My
open PySem PySem.Spec PyProof.Rows L2
open PySem.W (EachIs)
abbrev tokLe (x y : PyData) : Bool := PySem.W.sortLe (PyProof.Rows.listOrd itemOrd) false PySem.W.keyToks x y
/-- the data, sorted -/
def srtD (ds : List PyData) : List PyData := ds.mergeSort tokLe
def rSrtN (K : PySem.W.Frag) : List V → Hp → VK → Prop := fun xs H Q => ∃ (m a : Addr) (vs : List V) (ds : List PyData), xs = [.ref a] ∧ SqL K H a vs ∧ AtAll m H vs ds ∧ PySem.W.AllAlike ds ∧ PySem.W.Sortable ds ∧ (∀ d ∈ ds, d.depth ≤ 50) ∧
  ∀ (ys : List V) (p : Addr), H p = none → AtAll m H ys (srtD ds) → Q (.ref p) (upd H p (.lst ys))
theorem each_at {X : Cx} {pins : List (Addr × Obj)} {σ : L2.St} {H : Hp} {s : Shared} {m : Addr} (I : Inv X pins σ H s) : ∀ {vs : List V} {ds : List PyData} {its : List Value}, AtAll m H vs ds → Vals vs its →
    PySem.W.EachIs (fun u (b : V × PyData) => RelV b.1 u ∧ At m H b.1 b.2) its (vs.zip ds) ∧ PySem.W.EachIs (fun u d => ∃ as, Reads s.heap u d as) its ds
  | _, _, _, .nil, .nil => ⟨.nil, .nil⟩
  | _, _, _, .cons h q, .cons r rr => by
    obtain ⟨a, b⟩ := each_at I q rr
    exact ⟨.cons ⟨r, h⟩ a, .cons (Dp.reads I _ _ _ h.dp r) b⟩
theorem back_at {m : Addr} {H : Hp} : ∀ {its : List Value} {bs : List (V × PyData)}, PySem.W.EachIs (fun u (b : V × PyData) => RelV b.1 u ∧ At m H b.1 b.2) its bs → Vals (bs.map Prod.fst) its ∧ AtAll m H (bs.map Prod.fst) (bs.map Prod.snd)
  | _, _, .nil => ⟨.nil, .nil⟩
  | _, _, .cons h q => by
    obtain ⟨a, b⟩ := back_at q
    exact ⟨.cons h.1 a, .cons h.2 b⟩
theorem each_snd {R : Value → PyData → Prop} : ∀ {its : List Value} {vs : List V} {ds : List PyData}, vs.length = ds.length → PySem.W.EachIs R its ds → PySem.W.EachIs (fun u (b : V × PyData) => R u b.2) its (vs.zip ds)
  | [], [], [], _, .nil => .nil
  | [], _ :: _, [], h, _ => by cases h
  | _ :: _, [], _ :: _, h, _ => by cases h
  | _ :: _, v :: vs, d :: ds, h, .cons a b => .cons a (each_snd (by simpa using h) b)
theorem cr_sortedN {X : Cx} (hu : X.A.units + 64 < cLine) : CallR X (.builtin "sorted") (rSrtN X.K) := by
  intro pins s σ H xs us Q I r h
  obtain ⟨m, a, vs, ds, rfl, hs, hat, hal, hsb, hdp, q⟩ := h
  obtain ⟨u, rfl, ru⟩ := vals1 r
  obtain rfl : u = Value.ref a := ru
  obtain ⟨its, rv, hl, hz⟩ := I.list hs
  obtain ⟨e1, e2⟩ := each_at I hat rv
  have hlen : its.length ≤ sizeLine := by
    rw [← rv.length]
    exact hz
  have hr2 : ∀ {u : Value} {d : PyData}, (∃ as, Reads s.heap u d as) → ∃ as, Reads (PySem.W.sortingHeap (PySem.W.copyHeap s.heap its) (s.heap.objs.size + 1) its) u d as := fun {u d} ⟨as, h⟩ =>
    ⟨as, PyProof.Rows.Reads.keeps (fun b o e => PySem.W.sorting_copy_old e) h⟩
  have e3 := e2.mono fun u d h => hr2 h
  refine PySem.W.sorted_vals hl.isList (κ := PySem.W.dataKind (PySem.W.sortingHeap (PySem.W.copyHeap s.heap its) (s.heap.objs.size + 1) its) ds) (.data e3 hal hsb fun d hd => ?_) hlen ?_
  · have := hdp d hd
    show X.A.in1.in1.units + d.depth < cLine
    have : X.A.in1.in1.units = X.A.units + 2 := rfl
    omega
  · have e4 : PySem.W.EachIs (fun v d => (PySem.W.dataKind (PySem.W.sortingHeap (PySem.W.copyHeap s.heap its) (s.heap.objs.size + 1) its) ds).keyOf v = some (PySem.W.keyToks d)) its ds := by
      refine (PySem.W.each_mem e3).mono ?_
      rintro v d ⟨⟨as, h⟩, hd⟩
      exact PySem.W.dataKind_some hal hd h
    have e5 := PySem.W.sortVals_each (κ := PySem.W.dataKind (PySem.W.sortingHeap (PySem.W.copyHeap s.heap its) (s.heap.objs.size + 1) its) ds) (rev := false) (fun b : V × PyData => PySem.W.keyToks b.2) e1 (each_snd hat.length e4)
    obtain ⟨b1, b2⟩ := back_at e5
    obtain ⟨ep, he'⟩ := PyProof.Rows.sortedAll_at s.heap its (PySem.W.sortVals (PySem.W.dataKind (PySem.W.sortingHeap (PySem.W.copyHeap s.heap its) (s.heap.objs.size + 1) its) ds) false its its).toArray
    have hl2 := PySem.W.sortVals_length (κ := PySem.W.dataKind (PySem.W.sortingHeap (PySem.W.copyHeap s.heap its) (s.heap.objs.size + 1) its) ds) false (ks := its) (vs := its) rfl
    refine ⟨.ref (s.heap.objs.size + 1), _, I.laid (t' := s.toks) (a := s.heap.objs.size + 1) (o := .lst _) (fun _ _ => PyProof.Rows.sortedAll_old) (Nat.le_succ _) ⟨?_, _, ep, b1, he'⟩, rfl, q _ _ (I.hok.fresh (Nat.le_succ _)) ?_⟩
    · rw [b1.length, hl2]
      exact hlen
    · have e6 := PySem.W.sort_maps (r := PySem.W.sortLe (PyProof.Rows.listOrd itemOrd) false fun b : V × PyData => PySem.W.keyToks b.2) (s := tokLe) Prod.snd (l := vs.zip ds) (fun a _ b _ => rfl)
      have e7 : (vs.zip ds).map Prod.snd = ds := List.map_snd_zip (by rw [hat.length]; exact Nat.le_refl _)
      rw [e7] at e6
      have b3 : AtAll m H _ (((vs.zip ds).mergeSort (PySem.W.sortLe (PyProof.Rows.listOrd itemOrd) false fun b : V × PyData => PySem.W.keyToks b.2)).map Prod.snd) := b2
      rw [e6] at b3
      exact b3
end My

set_option Elab.async false
set_option maxRecDepth 100000
set_option maxHeartbeats 4000000
set_option linter.all false
namespace C83
open PySem L2 My M78
abbrev sWay : Stmt := top 23
abbrev nWay : List Str := ["before", "state", "found", "at"]
theorem scWay : FnScope nWay ["before", "state"] (defScope sWay) := ⟨rfl, rfl, rfl, by decide +kernel, rfl, by decide +kernel, by decide +kernel⟩

theorem small7 {n : Nat} (h : n < 8000000) : n < sizeLine := Nat.lt_trans h (by decide)
/-! states as keys -/
def sk (xs : List Row) : NestedKey := keyOf (stD xs)
theorem b2n_inj {a b : Bool} (h : (if a = true then (1 : Int) else 0) = (if b = true then 1 else 0)) : a = b := by cases a <;> cases b <;> first | rfl | (simp at h)
theorem keysOf_inj : ∀ {xs ys : List Row}, keysOf (xs.map rowD) = keysOf (ys.map rowD) → xs = ys
  | [], [], _ => rfl
  | [], _ :: _, h => by cases h
  | _ :: _, [], h => by cases h
  | x :: xs, y :: ys, h => by
    injection h with h1 h2
    have h3 : NestedKey.tup [.num x.p, .num (if x.o = true then 1 else 0), .num (if x.r = true then 1 else 0), .num x.l] = .tup [.num y.p, .num (if y.o = true then 1 else 0), .num (if y.r = true then 1 else 0), .num y.l] := h1
    injection h3 with h3
    injection h3 with a1 h3
    injection h3 with a2 h3
    injection h3 with a3 h3
    injection h3 with a4 h3
    injection a1 with a1
    injection a2 with a2
    injection a3 with a3
    injection a4 with a4
    obtain ⟨xp, xo, xr, xl⟩ := x
    obtain ⟨yp, yo, yr, yl⟩ := y
    dsimp only at a1 a2 a3 a4
    rw [a1, b2n_inj a2, b2n_inj a3, a4, keysOf_inj h2]
theorem sk_inj {xs ys : List Row} (h : sk xs = sk ys) : xs = ys := by
  have h1 : NestedKey.tup (keysOf (xs.map rowD)) = .tup (keysOf (ys.map rowD)) := h
  injection h1 with h1
  exact keysOf_inj h1
theorem sk_depth (xs : List Row) : (sk xs).depth ≤ 8 := by
  have : ∀ xs : List Row, NestedKey.depthAll (keysOf (xs.map rowD)) ≤ 1 := by
    intro xs
    induction xs with
    | nil => exact Nat.zero_le _
    | cons x r ih =>
      show max (NestedKey.depth (keyOf (rowD x))) (NestedKey.depthAll (keysOf (r.map rowD))) ≤ 1
      have : NestedKey.depth (keyOf (rowD x)) = 1 := rfl
      omega
  have h := this xs
  show NestedKey.depthAll (keysOf (xs.map rowD)) + 1 ≤ 8
  omega
theorem isT_row (r : Row) : isT (rowD r) = true := rfl
theorem isT_st (xs : List Row) : isT (stD xs) = true := by
  show isTAll (xs.map rowD) = true
  induction xs with
  | nil => rfl
  | cons x r ih =>
    show (isT (rowD x) && isTAll (r.map rowD)) = true
    rw [isT_row, ih]
    rfl
theorem isT_sc (ss : List (List Wd)) : isT (scD ss) = true := by
  show isTAll (ss.map fun sc => .tuple (sc.map fun v => .str (wS v))) = true
  induction ss with
  | nil => rfl
  | cons x r ih =>
    show (isTAll (x.map fun v => .str (wS v)) && isTAll (r.map fun sc => .tuple (sc.map fun v => .str (wS v)))) = true
    rw [ih, Bool.and_true]
    clear ih
    induction x with
    | nil => rfl
    | cons v q ih => exact ih
/-- an entry of a dict of states -/
abbrev BE := List Row × Addr × V
def kvB (b : BE) : NE := (sk b.1, b.2.1, b.2.2)
def getB (bs : List BE) (xs : List Row) : Option V := (bs.find? fun b => decide (b.1 = xs)).map (·.2.2)
theorem getB_is (xs : List Row) : ∀ bs : List BE, getN (bs.map kvB) (sk xs) = getB bs xs
  | [] => rfl
  | b :: r => by
    have ih := getB_is xs r
    unfold getN getB at ih ⊢
    rw [List.map_cons, List.find?_cons, List.find?_cons]
    by_cases h : b.1 = xs
    · rw [decide_eq_true h, decide_eq_true (show (kvB b).1 = sk xs by show sk b.1 = sk xs; rw [h])]
      rfl
    · rw [decide_eq_false h, decide_eq_false (show ¬ (kvB b).1 = sk xs from fun z => h (sk_inj z))]
      exact ih
theorem getB_isSome {bs : List BE} {xs : List Row} : (getB bs xs).isSome = decide (xs ∈ bs.map (·.1)) := by
  rw [Bool.eq_iff_iff, decide_eq_true_iff]
  unfold getB
  rw [Option.isSome_map, List.find?_isSome, List.mem_map]
  simp only [decide_eq_true_eq]
theorem getB_mem {bs : List BE} {b : BE} (hn : (bs.map (·.1)).Nodup) (hb : b ∈ bs) : getB bs b.1 = some b.2.2 := by
  induction bs with
  | nil => cases hb
  | cons c r ih =>
    rw [List.map_cons, List.nodup_cons] at hn
    unfold getB
    rw [List.find?_cons]
    rcases List.mem_cons.mp hb with rfl | hb
    · rw [decide_eq_true rfl]
      rfl
    · have : c.1 ≠ b.1 := fun z => hn.1 (List.mem_map.mpr ⟨b, hb, z.symm⟩)
      rw [decide_eq_false this]
      exact ih hn.2 hb
theorem nodup_sk : ∀ {bs : List BE}, (bs.map (·.1)).Nodup → ((bs.map kvB).map (·.1)).Nodup
  | [], _ => List.nodup_nil
  | b :: r, h => by
    rw [List.map_cons, List.nodup_cons] at h
    rw [List.map_cons, List.map_cons, List.nodup_cons]
    refine ⟨fun z => ?_, nodup_sk h.2⟩
    rw [List.map_map] at z
    obtain ⟨c, hc, e⟩ := List.mem_map.mp z
    exact h.1 (List.mem_map.mpr ⟨c, hc, sk_inj e⟩)
section
variable {P : Program} {w : World} {H H' : Hp} {R D : Addr} {bs : List BE}
/-- a dict of states -/
structure Sd (P : Program) (w : World) (H : Hp) (D : Addr) (bs : List BE) : Prop where
  dict : H D = some (NDO P w D (bs.map kvB))
  nd : (bs.map (·.1)).Nodup
  tp : ∀ b ∈ bs, Tp H (.ref b.2.1) (stD b.1)
theorem Sd.dn (h : Sd P w H D bs) : DN P w H D (bs.map kvB) := ⟨h.dict, nodup_sk h.nd, fun e he => by
  obtain ⟨b, hb, rfl⟩ := List.mem_map.mp he
  exact ⟨(h.tp b hb).key, sk_depth b.1⟩⟩
theorem Sd.mono (h : Sd P w H D bs) (e : H' D = some (NDO P w D (bs.map kvB))) (k : KeepT H H') : Sd P w H' D bs := ⟨e, h.nd, fun b hb => (h.tp b hb).mono k⟩
theorem Sd.same (h : Sd P w H D bs) (s : Same H H') : Sd P w H' D bs := h.mono (s _ _ h.dict) (.same s)
theorem Sd.one {b : BE} (e : H D = some (NDO P w D [kvB b])) (t : Tp H (.ref b.2.1) (stD b.1)) : Sd P w H D [b] := ⟨e, List.nodup_cons.mpr ⟨List.not_mem_nil, List.nodup_nil⟩, fun c hc => by rw [List.mem_singleton.mp hc]; exact t⟩
theorem Sd.key (h : Sd P w H D bs) {a : Addr} {xs : List Row} (t : Tp H (.ref a) (stD xs)) : NdK P w H (.ref D) (.ref a) (bs.map kvB) (sk xs) D a := ⟨rfl, rfl, h.dn, t.key, sk_depth xs⟩
theorem put_new {xs : List Row} {a : Addr} {v : V} (hx : xs ∉ bs.map (·.1)) : putN (bs.map kvB) (sk xs) a v = (bs ++ [(xs, a, v)]).map kvB := by
  unfold putN
  rw [getB_is, getB_isSome, decide_eq_false hx, if_neg (by decide), List.map_append]
  rfl
theorem Sd.push (h : Sd P w H D bs) {a : Addr} {v : V} {xs : List Row} (hx : xs ∉ bs.map (·.1)) (t : Tp H (.ref a) (stD xs)) : Sd P w (L2.upd H D (NDO P w D (putN (bs.map kvB) (sk xs) a v))) D (bs ++ [(xs, a, v)]) := by
  have k : KeepT H (L2.upd H D (NDO P w D (putN (bs.map kvB) (sk xs) a v))) := KeepT.ext h.dict
  refine ⟨by rw [put_new hx]; exact upd_same, ?_, fun b hb => ?_⟩
  · rw [List.map_append, List.nodup_append]
    refine ⟨h.nd, List.nodup_cons.mpr ⟨List.not_mem_nil, List.nodup_nil⟩, fun y hy z hz => ?_⟩
    obtain rfl := List.mem_singleton.mp hz
    rintro rfl
    exact hx hy
  · rcases List.mem_append.mp hb with hb | hb
    · exact (h.tp b hb).mono k
    · obtain rfl := List.mem_singleton.mp hb
      exact t.mono k
/-- the rows that wait, and the dict -/
structure Bf (P : Program) (w : World) (H : Hp) (R D : Addr) (bs : List BE) : Prop where
  rows : H R = some (.lst (bs.map fun b => V.ref b.2.1))
  sd : Sd P w H D bs
theorem Bf.same (h : Bf P w H R D bs) (s : Same H H') : Bf P w H' R D bs := ⟨s _ _ h.rows, h.sd.same s⟩
theorem Bf.ne (h : Bf P w H R D bs) : R ≠ D := ne_of h.rows h.sd.dict (fun z => by unfold NDO at z; cases z)
theorem Bf.push (h : Bf P w H R D bs) {a : Addr} {v : V} {xs : List Row} (hx : xs ∉ bs.map (·.1)) (t : Tp H (.ref a) (stD xs)) :
    Bf P w (L2.upd (L2.upd H D (NDO P w D (putN (bs.map kvB) (sk xs) a v))) R (.lst ((bs.map fun b => V.ref b.2.1) ++ [.ref a]))) R D (bs ++ [(xs, a, v)]) := by
  have q := h.sd.push (v := v) hx t
  refine ⟨by rw [upd_same, List.map_append]; rfl, q.mono (by rw [upd_ne (Ne.symm h.ne)]; exact q.dict) (KeepT.lst (by rw [upd_ne h.ne]; exact h.rows))⟩
/-- where a state came from, as the program keeps it -/
def VB (H : Hp) (e : Nd) (v : V) : Prop := match e.par with
  | none => v = .non
  | some (p, k) => ∃ t pa, v = .ref t ∧ H t = some (.tup [.ref pa, .int ((k : Nat) : Int)]) ∧ Tp H (.ref pa) (stD p)
theorem VB.mono (k : KeepT H H') {e : Nd} {v : V} (h : VB H e v) : VB H' e v := by
  unfold VB at h ⊢
  split at h
  · exact h
  · obtain ⟨t, pa, e1, e2, e3⟩ := h
    exact ⟨t, pa, e1, k _ _ e2, e3.mono k⟩
/-- the states found, and what the dict keeps of each -/
def RelB (VR : Nd → V → Prop) (es : List Nd) (bs : List BE) : Prop := Paired (fun e b => e.s = b.1 ∧ VR e b.2.2) es bs
theorem RelB.states {VR : Nd → V → Prop} : ∀ {es : List Nd} {bs : List BE}, RelB VR es bs → bs.map (·.1) = es.map Nd.s
  | _, _, .nil => rfl
  | _, _, .cons h q => by rw [List.map_cons, List.map_cons, h.1, RelB.states q]
theorem RelB.mono {VR VR' : Nd → V → Prop} (m : ∀ e v, VR e v → VR' e v) : ∀ {es : List Nd} {bs : List BE}, RelB VR es bs → RelB VR' es bs
  | _, _, .nil => .nil
  | _, _, .cons h q => .cons ⟨h.1, m _ _ h.2⟩ (RelB.mono m q)
theorem RelB.push {VR : Nd → V → Prop} {e : Nd} {b : BE} (he : e.s = b.1) (hv : VR e b.2.2) : ∀ {es : List Nd} {bs : List BE}, RelB VR es bs → RelB VR (es ++ [e]) (bs ++ [b])
  | _, _, .nil => .cons ⟨he, hv⟩ .nil
  | _, _, .cons h q => .cons h (RelB.push he hv q)
theorem RelB.get {VR : Nd → V → Prop} {es : List Nd} {bs : List BE} (h : RelB VR es bs) {e : Nd} (he : e ∈ es) : ∃ b ∈ bs, e.s = b.1 ∧ VR e b.2.2 := by
  induction h with
  | nil => cases he
  | cons h q ih =>
    rcases List.mem_cons.mp he with rfl | he
    · exact ⟨_, List.mem_cons_self .., h⟩
    · obtain ⟨b, hb, r⟩ := ih he
      exact ⟨b, List.mem_cons_of_mem _ hb, r⟩
theorem RelB.val {VR : Nd → V → Prop} {es : List Nd} (h : RelB VR es bs) (hn : (bs.map (·.1)).Nodup) {e : Nd} (he : e ∈ es) : ∃ v, getB bs e.s = some v ∧ VR e v := by
  obtain ⟨b, hb, e1, e2⟩ := h.get he
  exact ⟨b.2.2, by rw [e1]; exact getB_mem hn hb, e2⟩
theorem RelB.at {VR : Nd → V → Prop} {es : List Nd} (h : RelB VR es bs) {n : Nat} {e : Nd} (he : es[n]? = some e) : ∃ b, bs[n]? = some b ∧ e.s = b.1 ∧ VR e b.2.2 := L2.paired_get h he
end
/-- a way by numbers of scripts -/
inductive Pth (ss : List (List Wd)) (tr : Bool) (xs : List Row) : List Nat → List Row → Prop
  | nil : Pth ss tr xs [] xs
  | snoc {ks : List Nat} {ys : List Row} {k : Nat} : Pth ss tr xs ks ys → k ∈ wt ss ys → (tr = true ∨ (nx ss ys k).2 = false) → Pth ss tr xs (ks ++ [k]) (nx ss ys k).1
def numV (ks : List Nat) : List V := ks.map fun k : Nat => V.int (k : Int)
section
variable {P : Program} {w : World} {K : PySem.W.Frag} {mg : Str → Option Value} {base : Heap}

/-- the way to a state that was found -/
def spWay (P : Program) (w : World) : Sp := fun vs H Q _ => ∃ (D a : Addr) (bs : List BE) (ss : List (List Wd)) (tr : Bool) (es : List Nd) (e : Nd), vs = [.ref D, .ref a] ∧ Sd P w H D bs ∧ RelB (VB H) es bs ∧ InvN ss tr es ∧ e ∈ es ∧ Tp H (.ref a) (stD e.s) ∧ e.d ≤ 4100625 ∧
  ∀ (ks : List Nat) (q : Addr) (H' : Hp), ks.length = e.d → Pth ss tr (s0 ss) ks e.s → Same H H' → H' q = some (.tup (numV ks)) → Q (.ref q) H'
theorem pr_way (D' : Df K mg "way_to" sWay ["before", "state"]) (T : Ty mg) : Pr P w K mg base 1 "way_to" ["before", "state"] (spWay P w) := by
  refine D'.pr scWay (fun vs H Q E h => ?_) (fun f cdv A outer s H vs Q E hr h => ?_)
  · obtain ⟨D, a, bs, ss, tr, es, e, rfl, _⟩ := h
    rfl
  · obtain ⟨D, a, bs, ss, tr, es, e, rfl, sd, rel, inv, he, ta, hd, k⟩ := h
    have nd := scWay.nd
    refine ⟨_, (pss_cons (ps_asg (pe_lst pa_nil) (pg_name (i := 2) nd rfl (Or.inl rfl)))
      (pss_cons (ps_while PassesOwn.never (pt_cmpR op_notN (pe_nget hr.units (pv 0) (pv 1) (fun _ _ => rfl)) pe_non (nomark _))
        (pss_cons (ps_asg (pe_nget hr.units (pv 0) (pv 1) (fun _ _ => rfl)) (pg_tup rfl (pgs_cons (pg_name (i := 1) nd rfl (Or.inl rfl)) (pgs_cons (pg_name (i := 3) nd rfl (Or.inl rfl)) pgs_nil))))
        (pss_one (ps_expr (pe_bm PySem.F.plainAttrs_list PySem.F.slot_list_append PySem.F.type_list_append mt_append (pv 2) (pa_cons (pv 3) pa_nil))))))
      (pss_one (ps_ret (pe_callTy call_tuple_of (by rfl) T.tuple (by decide +kernel) (pa_cons (pe_revL (pv 2)) pa_nil)))))), ?_⟩
    refine ⟨(by show 0 ≤ sizeLine; decide), fun F nF => ?_⟩
    generalize hF : upd H F _ = H1
    have sF : Same H H1 := hF ▸ Same.new nF
    have eF : H1 F = some (.lst []) := hF ▸ upd_same
    clear hF
    refine ⟨fun m σ H2 => ∃ (a : Addr) (x : Nd) (fs : List Nat) (o3 : Option V), m = x.d ∧ σ = [some (.ref D), some (.ref a), some (.ref F), o3] ∧ x ∈ es ∧ Tp H (.ref a) (stD x.s) ∧ x.d + fs.length = e.d ∧ (∀ ks, Pth ss tr (s0 ss) ks x.s → Pth ss tr (s0 ss) (ks ++ fs.reverse) e.s) ∧ Same H H2 ∧ H2 F = some (.lst (numV fs)), ?_, ?_⟩
    · exact ⟨_, a, e, [], _, rfl, rfl, he, ta, by simp, fun ks h => by rw [List.reverse_nil, List.append_nil]; exact h, sF, eF⟩
    · rintro m σ H2 ⟨a, x, fs, o3, rfl, rfl, hx, tx, hxd, hp, s2, hF⟩
      have sd2 := sd.same s2
      obtain ⟨v, hv, vb⟩ := rel.val sd.nd hx
      have tx2 := tx.mono (.same s2)
      refine ⟨_, rfl, _, rfl, bs.map kvB, sk x.s, D, a, v, sd2.key tx2, by rw [getB_is]; exact hv, rfl, _, rfl, ?_⟩
      rcases inv.good x hx with ⟨h1, h2, h3⟩ | ⟨y, hy, kk, h1, h2, h4, h5, h6⟩
      · unfold VB at vb
        rw [h1] at vb
        have vb : v = .non := vb
        subst vb
        refine iteF ?_
        refine ⟨_, rfl, F, _, rfl, SqL.of hF, fun p np => ?_⟩
        generalize hp1 : upd H2 p _ = H3
        have s3 : Same H2 H3 := hp1 ▸ Same.new np
        have e3 : H3 p = some (.lst (numV fs).reverse) := hp1 ▸ upd_same
        clear hp1
        refine ⟨_, _, rfl, .inl ⟨SqL.of e3, fun q nq => ?_⟩⟩
        refine k fs.reverse q _ (by rw [List.length_reverse]; omega) ?_ (Same.tr s2 (Same.tr s3 (same_new nq))) (by rw [upd_same]; unfold numV; rw [← List.map_reverse])
        have := hp [] (by rw [h3]; exact .nil)
        rw [List.nil_append] at this
        exact this
      · unfold VB at vb
        rw [h1] at vb
        obtain ⟨t, pa, rfl, ht, tp⟩ := (show ∃ t pa, v = .ref t ∧ H t = some (.tup [.ref pa, .int ((kk : Nat) : Int)]) ∧ Tp H (.ref pa) (stD y.s) from vb)
        refine iteT ?_
        refine ⟨fun σ' H' => ∃ (a : Addr) (x' : Nd) (fs : List Nat) (o3 : Option V), x'.d < x.d ∧ σ' = [some (.ref D), some (.ref a), some (.ref F), o3] ∧ x' ∈ es ∧ Tp H (.ref a) (stD x'.s) ∧ x'.d + fs.length = e.d ∧ (∀ ks, Pth ss tr (s0 ss) ks x'.s → Pth ss tr (s0 ss) (ks ++ fs.reverse) e.s) ∧ Same H H' ∧ H' F = some (.lst (numV fs)), ?_, ?_⟩
        · rintro σ' H' ⟨a, x', fs, o3, hlt, r⟩
          exact ⟨_, hlt, a, x', fs, o3, rfl, r⟩
        · refine ⟨_, rfl, _, rfl, bs.map kvB, sk x.s, D, a, _, sd2.key tx2, by rw [getB_is]; exact hv, ?_⟩
          refine ⟨_, _, rfl, SqT.of (s2 _ _ ht), rfl, _, _, rfl, _, _, rfl, rfl, ?_⟩
          have nF9 : F ≠ D := fun z => by
            rw [z, sd.dict] at nF
            cases nF
          refine ⟨_, rfl, .inl ⟨rfl, _, SqL.of hF⟩, _, rfl, _, _, _, rfl, rfl, hF, (by unfold numV; rw [List.length_map]; exact small7 (by omega)), ?_⟩
          refine ⟨pa, y, fs ++ [kk], _, by omega, rfl, hy, tp, by rw [List.length_append]; show _ + (_ + 1) = _; omega, fun ks h => ?_, fun b u eb => ?_, ?_⟩
          · have q := hp (ks ++ [kk]) (by rw [← h5]; exact .snoc h h4 h6)
            rw [List.reverse_append, List.reverse_singleton]
            rw [List.append_assoc] at q
            exact q
          · rw [upd_ne (ne_of_none eb nF)]
            exact s2 _ _ eb
          · rw [upd_same]
            unfold numV
            rw [List.map_append]
            rfl
end
end C83

set_option Elab.async false
set_option maxRecDepth 100000
set_option maxHeartbeats 4000000
set_option linter.all false
namespace C83
open PySem L2 My M78
/-- some step is refused -/
def rfd (ss : List (List Wd)) (xs : List Row) : Bool := (wt ss xs).any fun k => (nx ss xs k).2
theorem ScIn.self (ss : List (List Wd)) : ScIn ss (scD ss) := ⟨_, .inr rfl, by
  induction ss with
  | nil => exact .nil
  | cons x r ih => exact .cons (.inr rfl) ih⟩
theorem exp_take {ss : List (List Wd)} {tr : Bool} {x : Nd} {es : List Nd} {ws : List Nat} {j k : Nat} (h : ws[j]? = some k) : expN ss tr x es (ws.take (j + 1)) = stepN ss tr x (expN ss tr x es (ws.take j)) k := by
  rw [take_succ' h]
  unfold expN
  rw [List.foldl_append]
  rfl
theorem bfs_next {ss : List (List Wd)} {tr : Bool} {n : Nat} {x : Nd} (h : (bfs ss tr n)[n]? = some x) : bfs ss tr (n + 1) = expN ss tr x (bfs ss tr n) (wt ss x.s) := by
  show (match (bfs ss tr n)[n]? with | some x => expN ss tr x (bfs ss tr n) (wt ss x.s) | none => bfs ss tr n) = _
  rw [h]
theorem alike_rows : ∀ xs ys : List Row, PySem.W.alikeAll (xs.map rowD) (ys.map rowD) = true
  | [], _ => by simp [PySem.W.alikeAll]
  | _ :: _, [] => by simp [PySem.W.alikeAll]
  | x :: xs, y :: ys => by
    rw [List.map_cons, List.map_cons]
    unfold PySem.W.alikeAll
    rw [alike_rows xs ys, Bool.and_true]
    unfold rowD PySem.W.alike
    simp [PySem.W.alikeAll, PySem.W.alike]
theorem alike_st (xs ys : List Row) : PySem.W.alike (stD xs) (stD ys) = true := by
  unfold stD PySem.W.alike
  exact alike_rows xs ys
theorem depth_st (xs : List Row) : (stD xs).depth ≤ 50 := by
  have : ∀ xs : List Row, PyData.depthAll (xs.map rowD) ≤ 1 := by
    intro xs
    induction xs with
    | nil => exact Nat.zero_le _
    | cons x r ih =>
      show max (PyData.depth (rowD x)) (PyData.depthAll (r.map rowD)) ≤ 1
      have : PyData.depth (rowD x) = 1 := by simp [rowD, PyData.depth, PyData.depthAll]
      omega
  have h := this xs
  unfold stD
  simp only [PyData.depth]
  omega
theorem isT_all : ∀ {ds : List PyData}, (∀ d ∈ ds, isT d = true) → isTAll ds = true
  | [], _ => rfl
  | d :: r, h => by
    simp only [isTAll, Bool.and_eq_true]
    exact ⟨h d (List.mem_cons_self ..), isT_all fun x hx => h x (List.mem_cons_of_mem _ hx)⟩
theorem srt_mem {d : PyData} {ds : List PyData} (h : d ∈ srtD ds) : d ∈ ds := List.mem_mergeSort.mp h
abbrev stsD (es : List Nd) : List PyData := es.map fun e => stD e.s
/-- the data of the rows that wait -/
theorem rows_at {VR : Nd → V → Prop} {H : Hp} : ∀ {es : List Nd} {bs : List BE}, RelB VR es bs → (∀ b ∈ bs, Tp H (.ref b.2.1) (stD b.1)) → TpAll H (bs.map fun b => V.ref b.2.1) (stsD es)
  | _, _, .nil, _ => .nil
  | _, _, .cons h q, t => .cons (by dsimp only; rw [h.1]; exact t _ (List.mem_cons_self ..)) (rows_at q fun b hb => t b (List.mem_cons_of_mem _ hb))
end C83

set_option Elab.async false
set_option maxRecDepth 100000
set_option maxHeartbeats 4000000
set_option linter.all false
namespace C83
open PySem L2 My M78
abbrev sIss : Stmt := top 24
abbrev nIss : List Str := ["scripts", "state", "ones", "at"]
theorem scIss : FnScope nIss ["scripts", "state"] (defScope sIss) := ⟨rfl, rfl, rfl, by decide +kernel, rfl, by decide +kernel, by decide +kernel⟩
abbrev sStk : Stmt := top 25
abbrev nStk : List Str := ["scripts", "rows", "before", "done", "state", "at", "after"]
theorem scStk : FnScope nStk ["scripts"] (defScope sStk) := ⟨rfl, rfl, rfl, by decide +kernel, rfl, by decide +kernel, by decide +kernel⟩

/-- nobody can go on, and somebody has a step left -/
def stk (ss : List (List Wd)) (xs : List Row) : Bool := !(wt ss xs).isEmpty && (wt ss xs).all fun k => (nx ss xs k).2
def natE (ws : List Nat) : List PyData := ws.map fun k : Nat => .int (k : Int)
theorem at_natE {m : Addr} {H : Hp} : ∀ ws : List Nat, AtAll m H (ws.map fun k : Nat => V.int (k : Int)) (natE ws)
  | [] => .nil
  | k :: r => .cons (.int _) (at_natE r)
theorem shaped_natE (ws : List Nat) : SeqAt.shaped (.list (natE ws)) = true := by
  have h1 : PyData.canLayAll0 (natE ws) = true := by
    induction ws with
    | nil => rfl
    | cons k r ih =>
      show (PyData.canLay0 (.int (k : Int)) && PyData.canLayAll0 (natE r)) = true
      rw [ih]
      rfl
  have h2 : PyData.depthAll (natE ws) = 0 := by
    clear h1
    induction ws with
    | nil => rfl
    | cons k r ih =>
      show max (PyData.depth (.int (k : Int))) (PyData.depthAll (natE r)) = 0
      rw [ih]
      rfl
  unfold SeqAt.shaped
  rw [Bool.and_eq_true_iff]
  refine ⟨?_, decide_eq_true ?_⟩
  · simpa only [PyData.canLay0] using h1
  · simp only [PyData.depth]
    rw [h2]
    decide
theorem eqv_natE (ws : List Nat) : PyData.eqv (.list (natE ws)) (.list []) = ws.isEmpty := by
  cases ws <;> rfl
/-- what the search for a standstill tells: all states, or an order -/
def ToldS (ss : List (List Wd)) (H H' : Hp) (q : Addr) : Prop :=
  (∃ (L : Addr) (ys : List V) (N : Nat), H' q = some (.tup [.str (Str.ofString "never"), .ref L]) ∧ H L = none ∧ H' L = some (.lst ys) ∧ (bfs ss true N).length ≤ N ∧ (∀ e ∈ bfs ss true N, stk ss e.s = false) ∧ TpAll H' ys (srtD (stsD (bfs ss true N)))) ∨
  ∃ (O : Addr) (n : Nat) (e : Nd) (ks : List Nat), H' q = some (.tup [.str (Str.ofString "order"), .ref O]) ∧ H' O = some (.tup (numV ks)) ∧ (bfs ss true n)[n]? = some e ∧ (∀ j x, j < n → (bfs ss true n)[j]? = some x → stk ss x.s = false) ∧ stk ss e.s = true ∧ ks.length = e.d ∧ Pth ss true (s0 ss) ks e.s
section
variable {P : Program} {w : World} {K : PySem.W.Frag} {mg : Str → Option Value} {base : Heap}

def spIss : Sp := fun vs H Q _ => ∃ (A B : Addr) (ss : List (List Wd)) (xs : List Row), vs = [.ref A, .ref B] ∧ Tp H (.ref A) (scD ss) ∧ Tp H (.ref B) (stD xs) ∧ SI ss xs ∧ Ok4 ss ∧ (∃ m, NoT H m) ∧ ∀ H', Same H H' → Q (.bl (stk ss xs)) H'
theorem pr_iss (D' : Df K mg "is_stuck_state" sIss ["scripts", "state"]) (T : Ty mg) (PWt : Pr P w K mg base 4 "waiting_ones" ["scripts", "state"] spWait)
    (PM : Pr P w K mg base 4 "moved" ["scripts", "state", "at"] spMoved) : Pr P w K mg base 5 "is_stuck_state" ["scripts", "state"] spIss := by
  refine D'.pr scIss (fun vs H Q E h => ?_) (fun f cdv A outer s H vs Q E hr h => ?_)
  · obtain ⟨A, B, ss, xs, rfl, _⟩ := h
    rfl
  · obtain ⟨A, B, ss, xs, rfl, tA, tB, si, ok4, ⟨mm, hmm⟩, k⟩ := h
    have nd := scIss.nd
    have l4 := ok4.l4
    have lxs : ss.length = xs.length := paired_len si
    refine ⟨_, (pss_cons (ps_asg (pe_callP PWt hr (by rfl) (pa_cons (pv 0) (pa_cons (pv 1) pa_nil))) (pg_name (i := 2) nd rfl (Or.inl rfl)))
      (pss_one (ps_ret (pe_and (pe_cmpR (op_neD hr.units) (pv 2) (pe_lst pa_nil) (nomark _)) (pe_one (pe_callB (cr_all rfl) (by rfl) T.all (by decide +kernel) (pa_cons (pe_lc (own := [("at", 3)]) (g := gName 3) (tt := tYes) (te := tOp (rIxT K) (tCall spMoved [] E0 (tCons (tVar 0) (tCons (tVar 1) (tCons (tVar 3) tNil)))) (tC (.int 1))) (by rfl) nd (pi_list (pv 2))
  (blkOk_by (own := [("at", 3)]) (N := nIss) (sc := defScope sIss) (by decide +kernel))
  (fun _ _ _ _ _ => pg_name (i := 3) nd rfl (Or.inl rfl) (Or.inr rfl)) (fun _ _ _ _ _ => pts_nil)
  (fun _ _ _ _ _ => (pe_ix ix_tup (pe_callP PM hr (by rfl) (pa_cons (pv 0) (pa_cons (pv 1) (pa_cons (pv 3) pa_nil)))) pe_int (fun _ _ => rfl)))) pa_nil))))))), ?_⟩
    refine ⟨_, rfl, _, rfl, mm, A, B, ss, xs, rfl, tA.at hmm, tB.at hmm, lxs, (by omega), fun Lf H2 nLf s2 hLf => ?_⟩
    obtain ⟨ws, hws⟩ : ∃ ws, ws = wt ss xs := ⟨_, rfl⟩
    rw [show waitL ss xs xs.length = ws from hws.symm] at hLf
    -- ones != []
    refine ⟨_, rfl, (by show 0 ≤ sizeLine; decide), fun N1 nN1 => ?_⟩
    generalize hN1 : upd H2 N1 _ = H3
    have sN1 : Same H2 H3 := hN1 ▸ Same.new nN1
    have eN1 : H3 N1 = some (.lst []) := hN1 ▸ upd_same
    clear hN1
    refine ⟨_, _, Dp.lst (SqL.of (sN1 _ _ hLf)) (at_natE (m := Lf) _).dp, Dp.lst (SqL.of eN1) .nil, shaped_natE _, rfl, ?_⟩
    rw [eqv_natE]
    refine ⟨_, rfl, ?_⟩
    have s3 := Same.tr s2 sN1
    cases hE : ws.isEmpty
    · refine iteT ?_
      have hLf3 := sN1 _ _ hLf
      refine ⟨_, rfl, Lf, rfl, ⟨_, SqL.of hLf3⟩, fun Dl hD => ?_⟩
      refine lc_list (K := K) (a := Lf) (xs := ws.map fun k : Nat => V.int (k : Int)) (fun i H4 => Same H3 H4 ∧ H4 Dl = some (.lst (((ws.take i).map fun k => (nx ss xs k).2).map V.bl))) ?_ ?_ ?_ ?_
      · exact ⟨same_new hD, upd_same⟩
      · exact fun i H4 _ q => SqL.of (q.1 _ _ hLf3)
      · rintro i y H4 hy ⟨s4, hl4⟩
        rw [List.getElem?_map] at hy
        obtain ⟨kk, hkk, rfl⟩ := Option.map_eq_some_iff.mp hy
        have hkw : kk ∈ wt ss xs := hws ▸ List.mem_of_getElem? hkk
        obtain ⟨sc, x, p, v, hsc, hx, hp, hv, hnx, sin, haf⟩ := wt_nx ok4.ok si hkw
        have s24 := Same.tr s3 s4
        have nT4 : NoT H4 Dl := .lst hl4
        have t4 := tA.mono (.same s24)
        have tb4 := tB.mono (.same s24)
        refine ⟨rfl, ?_⟩
        refine ⟨_, rfl, _, rfl, _, rfl, Dl, A, B, _, ss, xs, kk, p, sc, x, v, hl4, rfl, t4.at nT4, tb4.at nT4, (by omega), hsc, hx, hp, hv, fun q4 H5 _ s5 a5 => ?_⟩
        obtain ⟨_, u5, eu, _, h5, au⟩ := at_tup a5
        cases eu
        cases au with
        | @cons va _ _ _ aa ar =>
          cases ar with
          | cons ab ar2 =>
            cases ar2
            cases ab
            refine ⟨_, _, _, _, rfl, rfl, SqT.of h5, rfl, ?_⟩
            refine ⟨_, s5 _ _ hl4, ?_, ?_, ?_⟩
            · rw [List.length_map, List.length_map, List.length_take]
              have : ws.length ≤ 4 := by
                have h : (wt ss xs).length ≤ xs.length := waitL_len ss xs xs.length
                rw [hws]
                omega
              exact small6 (by omega)
            · intro b u e
              rw [upd_ne (ne_of_none e hD)]
              exact s5 _ _ (s4 _ _ e)
            · have e2 : (nx ss xs kk).2 = (triedM v x (topM xs kk)).2 := by rw [hnx]
              rw [upd_same, take_succ' hkk, List.map_append, List.map_append, ← e2]
              rfl
      · rintro H4 ⟨s4, hl4⟩
        rw [List.length_map, List.take_length] at hl4
        refine ⟨_, _, rfl, SqL.of hl4, ?_⟩
        have : (ws.map fun k => (nx ss xs k).2).all id = stk ss xs := by
          unfold stk
          rw [List.all_map, ← hws, hE]
          rfl
        rw [this]
        exact k _ (Same.tr s3 s4)
    · refine iteF ?_
      have : stk ss xs = false := by
        unfold stk
        rw [← hws, hE]
        rfl
      rw [← this]
      exact k _ s3
def spStk : Sp := fun vs H Q _ => ∃ (m A : Addr) (o : HO) (ss : List (List Wd)) (d : PyData), H m = some o ∧ vs = [.ref A] ∧ At m H (.ref A) d ∧ ScIn ss d ∧ Ok4 ss ∧ ∀ (q : Addr) (H' : Hp), Same H H' → ToldS ss H H' q → Q (.ref q) H'
theorem pr_stk (D' : Df K mg "stuck" sStk ["scripts"]) (T : Ty mg) (TS : mg "sorted" = none) (PC : Pr P w K mg base 3 "checked" ["scripts"] spChecked) (PF : Pr P w K mg base 4 "first_state" ["scripts"] spFirst) (PWt : Pr P w K mg base 4 "waiting_ones" ["scripts", "state"] spWait)
    (PM : Pr P w K mg base 4 "moved" ["scripts", "state", "at"] spMoved) (PY : Pr P w K mg base 1 "way_to" ["before", "state"] (spWay P w)) (PIS : Pr P w K mg base 5 "is_stuck_state" ["scripts", "state"] spIss) : Pr P w K mg base 6 "stuck" ["scripts"] spStk := by
  refine D'.pr scStk (fun vs H Q E h => ?_) (fun f cdv A outer s H vs Q E hr h => ?_)
  · obtain ⟨m, A, o, ss, d, hm, rfl, _⟩ := h
    rfl
  · obtain ⟨m, A, o, ss, d, hm, rfl, hA, hin, ok4, k⟩ := h
    have nd := scStk.nd
    have hr1 := hr.mono (show 1 ≤ 5 by decide)
    have hr3 := hr.mono (show 3 ≤ 5 by decide)
    have hr4 := hr.mono (show 4 ≤ 5 by decide)
    have ok := ok4.ok
    have hbnd := bnd_small ok4
    have l4 := ok4.l4
    refine ⟨_, (pss_cons (ps_asg (pe_callP PC hr3 (by rfl) (pa_cons (pv 0) pa_nil)) (pg_name (i := 0) nd rfl (Or.inl rfl)))
      (pss_cons (ps_asg (pe_lst (pa_cons (pe_callP PF hr4 (by rfl) (pa_cons (pv 0) pa_nil)) pa_nil)) (pg_name (i := 1) nd rfl (Or.inl rfl)))
      (pss_cons (ps_asg (pe_ndisp hr.units (pe_ix ix_list (pv 1) pe_int (fun _ _ => rfl)) pe_non) (pg_name (i := 2) nd rfl (Or.inl rfl)))
      (pss_cons (ps_asg pe_int (pg_name (i := 3) nd rfl (Or.inl rfl)))
      (pss_cons (ps_while PassesOwn.never (pt_cmpR op_lt (pv 3) (pe_callB call_len (by rfl) T.len PySem.boot_len (pa_cons (pv 1) pa_nil)) (nomark _))
        (pss_cons (ps_asg (pe_ix ix_list (pv 1) (pv 3) (fun _ _ => rfl)) (pg_name (i := 4) nd rfl (Or.inl rfl)))
        (pss_cons (ps_asg (pe_op op_add (pv 3) pe_int) (pg_name (i := 3) nd rfl (Or.inl rfl)))
        (pss_cons (ps_if (pt_val (pe_callP PIS hr (by rfl) (pa_cons (pv 0) (pa_cons (pv 4) pa_nil))))
          (pss_one (ps_ret (pe_tup (pa_cons pe_str (pa_cons (pe_callP PY hr1 (by rfl) (pa_cons (pv 2) (pa_cons (pv 4) pa_nil))) pa_nil)))))
          pss_nil)
        (pss_one (ps_for PassesOwn.never rfl (pi_list (pe_callP PWt hr4 (by rfl) (pa_cons (pv 0) (pa_cons (pv 4) pa_nil)))) (pg_name (i := 5) nd rfl (Or.inl rfl))
          (pss_cons (ps_asg (pe_ix ix_tup (pe_callP PM hr4 (by rfl) (pa_cons (pv 0) (pa_cons (pv 4) (pa_cons (pv 5) pa_nil)))) pe_int (fun _ _ => rfl)) (pg_name (i := 6) nd rfl (Or.inl rfl)))
          (pss_one (ps_if (pt_cmp (pc_nnotin hr.units (pv 6) (pv 2)))
            (pss_cons (ps_nput hr.units (pv 2) (pv 6) (pe_tup (pa_cons (pv 4) (pa_cons (pv 5) pa_nil))) rfl)
            (pss_one (ps_expr (pe_bm PySem.F.plainAttrs_list PySem.F.slot_list_append PySem.F.type_list_append mt_append (pv 1) (pa_cons (pv 6) pa_nil)))))
            pss_nil)))))))))
      (pss_one (ps_ret (pe_tup (pa_cons pe_str (pa_cons (pe_callB (cr_sortedN hr.units) (by rfl) TS (by decide +kernel) (pa_cons (pv 1) pa_nil)) pa_nil)))))))))), ?_⟩
    refine ⟨_, rfl, m, A, o, ss, d, hm, rfl, hA, hin, ok4.l1, ok4.l4, ok, fun q1 H1 s1 a1 => ?_⟩
    have t1 := a1.tp (isT_sc ss)
    refine ⟨_, rfl, m, q1, o, ss, scD ss, s1 _ _ hm, rfl, a1, ScIn.self ss, ok4.l1, ok4.l4, ok, fun q2 H2 s2 a2 => ?_⟩
    have t2 : Tp H2 (.ref q2) (stD (s0 ss)) := a2.tp (isT_st _)
    have t12 := t1.mono (.same s2)
    refine ⟨(by show 1 ≤ sizeLine; decide), fun R nR => ?_⟩
    generalize hR : upd H2 R _ = H3
    have sR : Same H2 H3 := hR ▸ Same.new nR
    have eR : H3 R = some (.lst [.ref q2]) := hR ▸ upd_same
    clear hR
    have sH3 : Same H H3 := Same.tr s1 (Same.tr s2 sR)
    have hRn : H R = none := Same.free (Same.tr s1 s2) nR
    -- before = {rows[0]: None}
    intro D nD
    generalize hD : upd H3 D _ = H4
    have sD : Same H3 H4 := hD ▸ Same.new nD
    have eD : H4 D = some (NDO P w D []) := hD ▸ upd_same
    clear hD
    have hDn : H D = none := Same.free sH3 nD
    have t24 := (t2.mono (.same sR)).mono (.same sD)
    refine ⟨_, rfl, R, _, 0, .ref q2, rfl, rfl, SqL.of (sD _ _ eR), rfl, ?_⟩
    refine ⟨_, _, rfl, eD, sk (s0 ss), q2, rfl, t24.key, sk_depth _, ?_⟩
    have nRD : R ≠ D := ne_of_none eR nD
    generalize hD5 : upd H4 D _ = H5
    have k45 : KeepT H4 H5 := hD5 ▸ KeepT.ext eD
    have eD5 : H5 D = some (NDO P w D [kvB (s0 ss, q2, .non)]) := hD5 ▸ upd_same
    have eR5 : H5 R = some (.lst [.ref q2]) := by
      rw [← hD5, upd_ne nRD]
      exact sD _ _ eR
    have sH5 : Same H H5 := fun b u e => by
      rw [← hD5, upd_ne (ne_of_none e hDn)]
      exact sD _ _ (sH3 _ _ e)
    clear hD5
    have t15 := ((t12.mono (.same sR)).mono (.same sD)).mono k45
    have bf5 : Bf P w H5 R D [(s0 ss, q2, .non)] := ⟨eR5, .one eD5 (t24.mono k45)⟩
    have rel5 : RelB (VB H5) (bfs ss true 0) [(s0 ss, q2, .non)] := .cons ⟨rfl, rfl⟩ .nil
    clear t12 t2 a2 a1 eD eR t24 sD sR
    -- the search
    refine ⟨fun m σ H6 => ∃ (n : Nat) (bs : List BE) (o4 o5 o6 : Option V), m + n = bnd ss ∧ σ = [some (.ref q1), some (.ref R), some (.ref D), some (.int (n : Int)), o4, o5, o6] ∧ Bf P w H6 R D bs ∧ RelB (VB H6) (bfs ss true n) bs ∧
        (∀ j x, j < n → (bfs ss true n)[j]? = some x → stk ss x.s = false) ∧ n ≤ (bfs ss true n).length ∧ Same H H6 ∧ Tp H6 (.ref q1) (scD ss), ?_, ?_⟩
    · exact ⟨bnd ss, 0, _, _, _, _, rfl, rfl, bf5, rel5, fun j x hj => absurd hj (Nat.not_lt_zero _), Nat.zero_le _, sH5, t15⟩
    · rintro m' σ H6 ⟨n, bs, o4, o5, o6, hmn, rfl, bf, rel, hno, hnl, s6, t6⟩
      have inv := bfs_inv (tr := true) ok n
      have hlen := inv.len
      have lbs : bs.length = (bfs ss true n).length := (paired_len rel).symm
      refine ⟨_, rfl, _, rfl, _, _, rfl, .inl ⟨_, SqL.of bf.rows, rfl⟩, _, _, rfl, rfl, _, rfl, ?_⟩
      rw [List.length_map]
      by_cases hn : n < bs.length
      · rw [decide_eq_true (show (n : Int) < ((bs.length : Nat) : Int) by omega)]
        refine iteT ?_
        obtain ⟨e, he⟩ : ∃ e, (bfs ss true n)[n]? = some e := ⟨_, List.getElem?_eq_getElem (by omega)⟩
        obtain ⟨b, hb, ebs, _⟩ := rel.at he
        have hem := List.mem_of_getElem? he
        have sie := inv.si e hem
        have hbm := List.mem_of_getElem? hb
        have tb := bf.sd.tp b hbm
        rw [← ebs] at tb
        have lxs : ss.length = e.s.length := paired_len sie
        refine ⟨fun σ' H' => ∃ (bs : List BE) (o4 o5 o6 : Option V), σ' = [some (.ref q1), some (.ref R), some (.ref D), some (.int ((n + 1 : Nat) : Int)), o4, o5, o6] ∧ Bf P w H' R D bs ∧ RelB (VB H') (bfs ss true (n + 1)) bs ∧
            (∀ j x, j < n + 1 → (bfs ss true (n + 1))[j]? = some x → stk ss x.s = false) ∧ n + 1 ≤ (bfs ss true (n + 1)).length ∧ Same H H' ∧ Tp H' (.ref q1) (scD ss), ?_, ?_⟩
        · rintro σ' H' ⟨bs, o4, o5, o6, r⟩
          exact ⟨m' - 1, by omega, n + 1, bs, o4, o5, o6, by omega, r⟩
        · refine ⟨_, rfl, _, rfl, R, _, _, .ref b.2.1, rfl, rfl, SqL.of bf.rows, atI_nat (by rw [List.getElem?_map, hb]; rfl), ?_⟩
          refine ⟨_, rfl, _, _, rfl, rfl, ?_⟩
          -- is_stuck_state
          refine ⟨_, rfl, _, rfl, q1, b.2.1, ss, e.s, rfl, t6, tb, sie, ok4, ⟨R, .lst bf.rows⟩, fun H5' s5' => ?_⟩
          refine ⟨_, rfl, ?_⟩
          replace bf := bf.same s5'
          replace rel := rel.mono fun e v h => VB.mono (.same s5') h
          replace t6 := t6.mono (.same s5')
          replace tb := tb.mono (.same s5')
          replace s6 := Same.tr s6 s5'
          clear s5'
          cases hstk : stk ss e.s
          rotate_left
          · refine iteT ?_
            have hed : e.d ≤ 4100625 := by
              have := inv.depth hem
              omega
            refine ⟨_, rfl, _, rfl, D, b.2.1, bs, ss, true, _, e, rfl, bf.sd, rel, inv, hem, tb, hed, fun ks q5 H10 hkl hpt s10 h10 => ?_⟩
            refine ⟨(by show 2 ≤ sizeLine; decide), fun p6 np6 => ?_⟩
            exact k p6 _ (Same.tr (Same.tr s6 s10) (same_new np6)) (.inr ⟨q5, n, e, ks, upd_same, same_new np6 _ _ h10, he, hno, hstk, hkl, hpt⟩)
          refine iteF ?_
          -- waiting_ones
          have nT : NoT H5' R := .lst bf.rows
          refine ⟨_, rfl, _, rfl, R, q1, b.2.1, ss, e.s, rfl, t6.at nT, tb.at nT, lxs, (by omega), fun q3 H7 nq3 s7 hl7 => ?_⟩
          obtain ⟨ws, hws⟩ : ∃ ws, ws = wt ss e.s := ⟨_, rfl⟩
          rw [show waitL ss e.s e.s.length = ws from hws.symm] at hl7
          refine ⟨q3, rfl, ⟨_, SqL.of hl7⟩, ?_⟩
          have hq3 : H q3 = none := Same.free s6 nq3
          have nq3R : q3 ≠ R := Ne.symm (ne_of_none bf.rows nq3)
          have nq3D : q3 ≠ D := Ne.symm (ne_of_none bf.sd.dict nq3)
          refine for_list (K := K) (xs := ws.map fun k : Nat => V.int (k : Int)) (fun j σ H8 => ∃ (bs : List BE) (o5 o6 : Option V), σ = [some (.ref q1), some (.ref R), some (.ref D), some (.int ((n : Int) + 1)), some (.ref b.2.1), o5, o6] ∧ Bf P w H8 R D bs ∧
              RelB (VB H8) (expN ss true e (bfs ss true n) (ws.take j)) bs ∧ Same H H8 ∧ Tp H8 (.ref q1) (scD ss) ∧ Tp H8 (.ref b.2.1) (stD e.s) ∧ H8 q3 = some (.lst (ws.map fun k : Nat => V.int (k : Int)))) ?_ ?_ ?_ ?_
          · exact ⟨bs, _, _, rfl, bf.same s7, rel.mono fun e v h => h.mono (.same s7), Same.tr s6 s7, t6.mono (.same s7), tb.mono (.same s7), hl7⟩
          · rintro j σ H8 _ ⟨bs, o5, o6, _, _, _, _, _, _, h⟩
            exact SqL.of h
          · rintro j y σ H8 hy ⟨bs, o5, o6, rfl, bf8, rel8, s8, t8, tb8, hl8⟩
            rw [List.getElem?_map] at hy
            obtain ⟨kk, hkk, rfl⟩ := Option.map_eq_some_iff.mp hy
            have hkw : kk ∈ wt ss e.s := hws ▸ List.mem_of_getElem? hkk
            obtain ⟨sc, x, p, v, hsc, hx, hp, hv, hnx, sin, _⟩ := wt_nx ok sie hkw
            have nT8 : NoT H8 R := .lst bf8.rows
            have inv8 : InvN ss true (expN ss true e (bfs ss true n) (ws.take j)) := inv.exp ok hem fun k hk => hws ▸ List.mem_of_mem_take hk
            obtain ⟨tl, htl⟩ := exp_pre ss true e (ws.take j) (bfs ss true n)
            have he8 : e ∈ expN ss true e (bfs ss true n) (ws.take j) := by
              rw [htl]
              exact List.mem_append_left _ hem
            -- moved
            refine ⟨_, rfl, _, rfl, _, rfl, R, q1, b.2.1, _, ss, e.s, kk, p, sc, x, v, bf8.rows, rfl, t8.at nT8, tb8.at nT8, (by omega), hsc, hx, hp, hv, fun q4 H9 nq4 s9 a9 => ?_⟩
            have e1 : (nx ss e.s kk).1 = e.s.set kk (triedM v x (topM e.s kk)).1 := by rw [hnx]
            have e2 : (nx ss e.s kk).2 = (triedM v x (topM e.s kk)).2 := by rw [hnx]
            rw [← e1, ← e2] at a9
            obtain ⟨_, u9, eu, _, h9, au⟩ := at_tup a9
            cases eu
            cases au with
            | @cons va _ _ _ aa ar =>
              cases ar with
              | cons ab ar2 =>
                cases ar2
                cases ab
                have ta9 := aa.tp (isT_st _)
                obtain ⟨a4, x4, rfl, _, _⟩ := Tp.ref (ds := (nx ss e.s kk).1.map rowD) ta9
                refine ⟨_, _, _, _, rfl, rfl, SqT.of h9, rfl, ?_⟩
                have bf9 := bf8.same s9
                have rel9 := rel8.mono fun e v h => VB.mono (.same s9) h
                have s89 := Same.tr s8 s9
                have t9 := t8.mono (.same s9)
                have tb9 := tb8.mono (.same s9)
                have hst : stepN ss true e (expN ss true e (bfs ss true n) (ws.take j)) kk = addN (expN ss true e (bfs ss true n) (ws.take j)) e (nx ss e.s kk).1 kk := by
                  unfold stepN
                  rw [if_pos (by rfl)]
                -- if after not in before
                refine ⟨_, rfl, _, rfl, bs.map kvB, sk (nx ss e.s kk).1, D, a4, bf9.sd.key ta9, ?_⟩
                rw [getB_is, getB_isSome, rel9.states]
                refine ⟨_, rfl, ?_⟩
                by_cases hin9 : (nx ss e.s kk).1 ∈ (expN ss true e (bfs ss true n) (ws.take j)).map Nd.s
                · rw [decide_eq_true hin9]
                  refine iteF ?_
                  refine ⟨bs, _, _, rfl, bf9, ?_, s89, t9, tb9, s9 _ _ hl8⟩
                  rw [exp_take hkk, hst]
                  unfold addN
                  rw [if_pos hin9]
                  exact rel9
                · rw [decide_eq_false hin9]
                  refine iteT ?_
                  refine ⟨_, rfl, _, rfl, (by show 2 ≤ sizeLine; decide), fun tt ntt => ?_⟩
                  generalize htt : upd H9 tt _ = H10
                  have s10 : Same H9 H10 := htt ▸ Same.new ntt
                  have e10 : H10 tt = some (.tup [.ref b.2.1, .int (kk : Int)]) := htt ▸ upd_same
                  clear htt
                  have bf10 := bf9.same s10
                  have rel10 := rel9.mono fun e v h => VB.mono (.same s10) h
                  have ta10 := ta9.mono (.same s10)
                  have l10 : bs.length = (expN ss true e (bfs ss true n) (ws.take j)).length := (paired_len rel10).symm
                  have hlen10 := inv8.len
                  refine ⟨_, rfl, _, rfl, bs.map kvB, sk (nx ss e.s kk).1, D, a4, bf10.sd.key ta10, (by rw [List.length_map]; exact Nat.lt_of_le_of_lt (show bs.length ≤ 4100625 by omega) (by decide)), ?_⟩
                  have hR10 : upd H10 D (NDO P w D (putN (bs.map kvB) (sk (nx ss e.s kk).1) a4 (.ref tt))) R = some (.lst (bs.map fun b => V.ref b.2.1)) := by
                    rw [upd_ne bf10.ne]
                    exact bf10.rows
                  refine ⟨_, rfl, .inl ⟨rfl, _, SqL.of hR10⟩, _, rfl, R, _, _, rfl, rfl, hR10, (by rw [List.length_map]; exact Nat.lt_of_le_of_lt (show bs.length ≤ 4100625 by omega) (by decide)), ?_⟩
                  have hx10 : (nx ss e.s kk).1 ∉ bs.map (·.1) := by
                    rw [rel10.states]
                    exact hin9
                  have bfP := bf10.push (v := .ref tt) hx10 ta10
                  have kP : KeepT H10 _ := (KeepT.ext (o := NDO P w D (putN (bs.map kvB) (sk (nx ss e.s kk).1) a4 (.ref tt))) bf10.sd.dict).trans (KeepT.lst (o := .lst ((bs.map fun b => V.ref b.2.1) ++ [.ref a4])) hR10)
                  refine ⟨bs ++ [((nx ss e.s kk).1, a4, V.ref tt)], _, _, rfl, bfP, ?_, fun bb u eb => ?_, (t9.mono (.same s10)).mono kP, (tb9.mono (.same s10)).mono kP, ?_⟩
                  · rw [exp_take hkk, hst]
                    unfold addN
                    rw [if_neg hin9]
                    exact (rel10.mono fun e v h => VB.mono kP h).push rfl ⟨tt, b.2.1, rfl, kP _ _ e10, (tb9.mono (.same s10)).mono kP⟩
                  · rw [upd_ne (ne_of_none eb hRn), upd_ne (ne_of_none eb hDn)]
                    exact s10 _ _ (s89 _ _ eb)
                  · rw [upd_ne nq3R, upd_ne nq3D]
                    exact s10 _ _ (s9 _ _ hl8)
          · rintro σ H8 ⟨bs, o5, o6, rfl, bf8, rel8, s8, t8, tb8, hl8⟩
            rw [List.length_map, List.take_length] at rel8
            have hbn : bfs ss true (n + 1) = expN ss true e (bfs ss true n) ws := by
              rw [bfs_next he, hws]
            rw [← hbn] at rel8
            obtain ⟨tl, htl⟩ := bfs_pre ss true n
            refine ⟨bs, _, _, _, rfl, bf8, rel8, fun j x hj hx => ?_, ?_, s8, t8⟩
            · rw [htl, List.getElem?_append_left (by omega)] at hx
              rcases Nat.lt_or_ge j n with h | h
              · exact hno j x h hx
              · obtain rfl : j = n := by omega
                rw [he] at hx
                cases hx
                exact hstk
            · rw [htl, List.length_append]
              omega
      · rw [decide_eq_false (show ¬ (n : Int) < ((bs.length : Nat) : Int) by omega)]
        refine iteF ?_
        have hall : ∀ e ∈ bfs ss true n, stk ss e.s = false := fun e he => by
          obtain ⟨j, hj, ej⟩ := List.getElem_of_mem he
          exact hno j e (by omega) (by rw [List.getElem?_eq_getElem hj, ej])
        have tr6 := rows_at rel bf.sd.tp
        refine ⟨_, rfl, ?_⟩
        dsimp only [tNil]
        refine ⟨R, R, _, _, rfl, SqL.of bf.rows, tr6.at (.lst bf.rows), ?_, ?_, ?_, fun ys L nL ays => ?_⟩
        · intro x hx y hy
          obtain ⟨e, _, rfl⟩ := List.mem_map.mp hx
          obtain ⟨e', _, rfl⟩ := List.mem_map.mp hy
          exact alike_st _ _
        · refine .inl fun x hx => ?_
          obtain ⟨e, he, rfl⟩ := List.mem_map.mp hx
          have hl := paired_len (inv.si e he)
          have := ok4.l1
          obtain ⟨r, rs, hrs⟩ : ∃ r rs, e.s = r :: rs := by
            cases h : e.s with
            | nil =>
              rw [h] at hl
              have : ss.length = 0 := hl
              omega
            | cons r rs => exact ⟨r, rs, rfl⟩
          exact ⟨rowD r, rs.map rowD, by rw [hrs]; rfl⟩
        · intro x hx
          obtain ⟨e, _, rfl⟩ := List.mem_map.mp hx
          exact depth_st _
        · have tys := ays.tp (isT_all fun d hd => by
            obtain ⟨e, _, rfl⟩ := List.mem_map.mp (srt_mem hd)
            exact isT_st _)
          generalize hL7 : upd H6 L _ = H7
          have s7 : Same H6 H7 := hL7 ▸ Same.new nL
          have e7 : H7 L = some (.lst ys) := hL7 ▸ upd_same
          clear hL7
          refine ⟨(by show 2 ≤ sizeLine; decide), fun p6 np6 => ?_⟩
          refine k p6 _ (Same.tr s6 (Same.tr s7 (same_new np6))) (.inl ⟨L, ys, n, upd_same, Same.free s6 nL, same_new np6 _ _ e7, by omega, hall, (tys.mono (.same s7)).mono (.same (same_new np6))⟩)
end
end C83

set_option Elab.async false
set_option maxRecDepth 100000
set_option maxHeartbeats 4000000
set_option linter.all false
namespace C83
open PySem L2 My M78
/-- where a way leads -/
def runs (ss : List (List Wd)) (xs : List Row) (ks : List Nat) : List Row := ks.foldl (fun xs k => (nx ss xs k).1) xs
theorem runs_snoc (ss : List (List Wd)) (xs : List Row) (ks : List Nat) (k : Nat) : runs ss xs (ks ++ [k]) = (nx ss (runs ss xs ks) k).1 := by
  unfold runs
  rw [List.foldl_append]
  rfl
theorem Pth.runs {ss : List (List Wd)} {tr : Bool} {xs ys : List Row} {ks : List Nat} (h : Pth ss tr xs ks ys) : runs ss xs ks = ys ∧ ∀ j k, ks[j]? = some k → k ∈ wt ss (C83.runs ss xs (ks.take j)) ∧ (tr = true ∨ (nx ss (C83.runs ss xs (ks.take j)) k).2 = false) := by
  induction h with
  | nil => exact ⟨rfl, fun j k h => by simp at h⟩
  | @snoc ks ys k h1 h2 h3 ih =>
    obtain ⟨e, ih⟩ := ih
    refine ⟨by rw [runs_snoc, e], fun j k' hj => ?_⟩
    by_cases hl : j < ks.length
    · rw [List.getElem?_append_left hl] at hj
      rw [List.take_append_of_le_length (by omega)]
      exact ih j k' hj
    · have hj2 : j = ks.length := by
        have := (List.getElem?_eq_some_iff.mp hj).1
        rw [List.length_append] at this
        simp at this
        omega
      subst hj2
      simp at hj
      subst hj
      rw [List.take_append_of_le_length (Nat.le_refl _), List.take_length, e]
      exact ⟨h2, h3⟩
theorem Pth.si {ss : List (List Wd)} {tr : Bool} {xs ys : List Row} {ks : List Nat} (ok : ∀ sc ∈ ss, okScr sc) (si : SI ss xs) (h : Pth ss tr xs ks ys) : SI ss ys := by
  induction h with
  | nil => exact si
  | snoc h1 h2 h3 ih =>
    obtain ⟨_, _, _, _, _, _, _, _, _, q, _⟩ := wt_nx ok ih h2
    exact q
/-- every state on the way -/
theorem Pth.take {ss : List (List Wd)} {tr : Bool} {xs ys : List Row} {ks : List Nat} (h : Pth ss tr xs ks ys) : ∀ j, j ≤ ks.length → Pth ss tr xs (ks.take j) (C83.runs ss xs (ks.take j)) := by
  induction h with
  | nil => exact fun j _ => by rw [List.take_nil]; exact .nil
  | @snoc ks ys k h1 h2 h3 ih =>
    intro j hj
    by_cases hl : j ≤ ks.length
    · rw [List.take_append_of_le_length hl]
      exact ih j hl
    · rw [List.length_append] at hj
      have hj : j ≤ ks.length + 1 := hj
      rw [List.take_of_length_le (by rw [List.length_append]; show ks.length + 1 ≤ j; omega)]
      have e := h1.runs.1
      rw [runs_snoc, e]
      exact .snoc h1 h2 h3
theorem inV_nat (j : Nat) (l : List Nat) : inV (.int (j : Int)) (l.map fun k : Nat => V.int (k : Int)) = decide (j ∈ l) := by
  rw [Bool.eq_iff_iff, decide_eq_true_iff]
  unfold inV
  rw [List.any_eq_true]
  constructor
  · rintro ⟨y, hy, e⟩
    obtain ⟨k, hk, rfl⟩ := List.mem_map.mp hy
    have : (k : Int) = (j : Int) := eq_of_beq e
    obtain rfl : k = j := by omega
    exact hk
  · intro h
    exact ⟨_, List.mem_map.mpr ⟨j, h, rfl⟩, beq_self_eq_true _⟩
theorem flat_nats (l : List Nat) : (l.map fun k : Nat => V.int (k : Int)).all flatV = true := List.all_eq_true.mpr fun x hx => by
  obtain ⟨k, _, rfl⟩ := List.mem_map.mp hx
  rfl

/-- a closed search holds every state that a step leads to -/
theorem step_has {ss : List (List Wd)} {tr : Bool} {x : Nd} {k : Nat} (es : List Nd) (ht : tr = true ∨ (nx ss x.s k).2 = false) : (nx ss x.s k).1 ∈ (stepN ss tr x es k).map Nd.s := by
  unfold stepN addN
  rw [if_pos (by rcases ht with h | h <;> rw [h] <;> simp)]
  by_cases h : (nx ss x.s k).1 ∈ es.map Nd.s
  · rw [if_pos h]
    exact h
  · rw [if_neg h, List.map_append]
    exact List.mem_append_right _ (List.mem_singleton.mpr rfl)
theorem exp_has {ss : List (List Wd)} {tr : Bool} {x : Nd} {k : Nat} (ht : tr = true ∨ (nx ss x.s k).2 = false) : ∀ (ks : List Nat) (es : List Nd), k ∈ ks → (nx ss x.s k).1 ∈ (expN ss tr x es ks).map Nd.s
  | [], _, h => nomatch h
  | j :: r, es, h => by
    show _ ∈ (expN ss tr x (stepN ss tr x es j) r).map Nd.s
    rcases List.mem_cons.mp h with rfl | h
    · obtain ⟨t, ht'⟩ := exp_pre ss tr x r (stepN ss tr x es k)
      rw [ht', List.map_append]
      exact List.mem_append_left _ (step_has es ht)
    · exact exp_has ht r _ h
theorem bfs_has {ss : List (List Wd)} {tr : Bool} : ∀ (n : Nat) {j : Nat} {e : Nd} {k : Nat}, j < n → (bfs ss tr n)[j]? = some e → k ∈ wt ss e.s → (tr = true ∨ (nx ss e.s k).2 = false) → (nx ss e.s k).1 ∈ (bfs ss tr n).map Nd.s
  | 0, j, e, k, h, _, _, _ => absurd h (Nat.not_lt_zero _)
  | n + 1, j, e, k, h, he, hk, ht => by
    cases hx : (bfs ss tr n)[n]? with
    | none =>
      have e1 : bfs ss tr (n + 1) = bfs ss tr n := by
        show (match (bfs ss tr n)[n]? with | some x => expN ss tr x (bfs ss tr n) (wt ss x.s) | none => bfs ss tr n) = _
        rw [hx]
      rw [e1] at he ⊢
      have h1 := (List.getElem?_eq_some_iff.mp he).1
      have h2 := List.getElem?_eq_none_iff.mp hx
      exact bfs_has n (by omega) he hk ht
    | some x =>
      have hn : n < (bfs ss tr n).length := (List.getElem?_eq_some_iff.mp hx).1
      obtain ⟨t, ht'⟩ := bfs_pre ss tr n
      rcases Nat.lt_or_ge j n with hj | hj
      · rw [ht', List.getElem?_append_left (by omega)] at he
        rw [ht', List.map_append]
        exact List.mem_append_left _ (bfs_has n hj he hk ht)
      · obtain rfl : j = n := by omega
        rw [ht', List.getElem?_append_left hn, hx] at he
        cases he
        rw [bfs_next hx]
        exact exp_has ht _ _ hk
theorem bfs_closed {ss : List (List Wd)} {tr : Bool} {N k : Nat} {xs : List Row} (hN : (bfs ss tr N).length ≤ N) (hx : xs ∈ (bfs ss tr N).map Nd.s) (hk : k ∈ wt ss xs) (ht : tr = true ∨ (nx ss xs k).2 = false) : (nx ss xs k).1 ∈ (bfs ss tr N).map Nd.s := by
  obtain ⟨e, he, rfl⟩ := List.mem_map.mp hx
  obtain ⟨j, hj, ej⟩ := List.getElem_of_mem he
  exact bfs_has N (j := j) (by omega) (by rw [List.getElem?_eq_getElem hj, ej]) hk ht
theorem bfs_first {ss : List (List Wd)} {tr : Bool} (ok : ∀ sc ∈ ss, okScr sc) (N : Nat) : s0 ss ∈ (bfs ss tr N).map Nd.s := by
  obtain ⟨r, hr⟩ := (bfs_inv (tr := tr) ok N).first
  rw [hr]
  exact List.mem_cons_self ..
/-! how much is left -/
def lft : List (List Wd) → List Row → Nat
  | sc :: ss, x :: xs => (sc.length - x.p.toNat) + lft ss xs
  | _, _ => 0
theorem lft_set : ∀ {ss : List (List Wd)} {xs : List Row} {k : Nat} {sc : List Wd} {x : Row} (y : Row), ss[k]? = some sc → xs[k]? = some x → lft ss (xs.set k y) + (sc.length - x.p.toNat) = lft ss xs + (sc.length - y.p.toNat)
  | [], _, _, _, _, _, h, _ => by simp at h
  | _ :: _, [], _, _, _, _, _, h => by simp at h
  | sc' :: ss, x' :: xs, 0, sc, x, y, h1, h2 => by
    simp at h1 h2
    subst h1 h2
    show (_ + lft ss xs) + _ = (_ + lft ss xs) + _
    omega
  | sc' :: ss, x' :: xs, k + 1, sc, x, y, h1, h2 => by
    have := lft_set (k := k) y (show ss[k]? = some sc by simpa using h1) (show xs[k]? = some x by simpa using h2)
    show (_ + lft ss (xs.set k y)) + _ = (_ + lft ss xs) + _
    omega
def tot (ss : List (List Wd)) : Nat := (ss.map List.length).sum
theorem lft_zero : ∀ ss : List (List Wd), lft ss (s0 ss) = tot ss
  | [] => rfl
  | sc :: r => by
    have := lft_zero r
    unfold s0 at this ⊢
    show (sc.length - row0.p.toNat) + lft r (List.replicate r.length row0) = sc.length + tot r
    rw [this]
    rfl
/-- what a refused step leaves -/
theorem tr_ref {v : Wd} {x : Row} {t : Int} (h : (triedM v x t).2 = true) : (triedM v x t).1 = if v = .com then ⟨x.p, x.o, x.r, max x.l 3⟩ else x := by
  unfold triedM at h ⊢
  split at h
  · rename_i h1
    rw [if_pos h1]
    have hv : v ≠ .com := fun z => by
      subst z
      revert h1
      decide
    rw [if_neg hv]
    cases e : openL v x.l t with
    | none => rfl
    | some l =>
      rw [e] at h
      cases h
  · rename_i h1
    rw [if_neg h1]
    split at h
    · rename_i h2
      rw [if_pos h2]
      have hv : v ≠ .com := fun z => by
        subst z
        revert h2
        decide
      rw [if_neg hv]
      cases e : workL v x t with
      | none => rfl
      | some l =>
        rw [e] at h
        cases h
    · rename_i h2
      rw [if_neg h2]
      split at h
      · cases h
      · rename_i h3
        rw [if_neg h3]
        split at h
        · rename_i h4
          rw [if_pos h4, if_pos h4.1]
        · cases h
theorem tr_acc {v : Wd} {x : Row} {t : Int} (h : (triedM v x t).2 = false) : (triedM v x t).1.p = x.p + 1 := by
  unfold triedM at h ⊢
  split at h
  · rename_i h1
    rw [if_pos h1]
    cases e : openL v x.l t with
    | none =>
      rw [e] at h
      cases h
    | some l => rfl
  · rename_i h1
    rw [if_neg h1]
    split at h
    · rename_i h2
      rw [if_pos h2]
      cases e : workL v x t with
      | none =>
        rw [e] at h
        cases h
      | some l => rfl
    · rename_i h2
      rw [if_neg h2]
      split at h
      · rename_i h3
        rw [if_pos h3]
        rfl
      · rename_i h3
        rw [if_neg h3]
        split at h
        · cases h
        · rename_i h4
          rw [if_neg h4]
          rfl
/-- a row whose refusal changes nothing more -/
def Pnd (ss : List (List Wd)) (xs : List Row) (k : Nat) : Prop := ∀ (sc : List Wd) (x : Row) (p : Nat), ss[k]? = some sc → xs[k]? = some x → x.p = (p : Int) → sc[p]? = some .com → 3 ≤ x.l
/-- refusals change nothing -/
def Stl (ss : List (List Wd)) (xs : List Row) : Prop := ∀ k ∈ wt ss xs, (nx ss xs k).2 = true → (nx ss xs k).1 = xs
theorem set_self {α : Type} : ∀ {l : List α} {i : Nat} {x : α}, l[i]? = some x → l.set i x = l
  | [], _, _, h => by simp at h
  | a :: r, 0, x, h => by
    simp at h
    subst h
    rfl
  | a :: r, i + 1, x, h => by
    show a :: r.set i x = a :: r
    rw [set_self (show r[i]? = some x by simpa using h)]
theorem Pnd.stl {ss : List (List Wd)} {xs : List Row} (ok : ∀ sc ∈ ss, okScr sc) (si : SI ss xs) (h : ∀ k ∈ wt ss xs, Pnd ss xs k) : Stl ss xs := fun k hk hr => by
  obtain ⟨sc, x, p, v, hsc, hx, hp, hv, hnx, _, _⟩ := wt_nx ok si hk
  rw [hnx] at hr ⊢
  have e := tr_ref hr
  dsimp only
  rw [e]
  by_cases hc : v = .com
  · subst hc
    have := h k hk sc x p hsc hx hp hv
    rw [if_pos rfl, show max x.l 3 = x.l by omega]
    exact set_self hx
  · rw [if_neg hc]
    exact set_self hx
/-- what one try does -/
theorem try_one {ss : List (List Wd)} {xs : List Row} {k : Nat} (ok : ∀ sc ∈ ss, okScr sc) (si : SI ss xs) (hk : k ∈ wt ss xs) :
    SI ss (nx ss xs k).1 ∧ (∀ j, j ≠ k → (nx ss xs k).1[j]? = xs[j]?) ∧ (((nx ss xs k).2 = false ∧ lft ss (nx ss xs k).1 < lft ss xs) ∨ ((nx ss xs k).2 = true ∧ lft ss (nx ss xs k).1 = lft ss xs ∧ Pnd ss (nx ss xs k).1 k)) := by
  obtain ⟨sc, x, p, v, hsc, hx, hp, hv, hnx, sin, _⟩ := wt_nx ok si hk
  have hpl := (List.getElem?_eq_some_iff.mp hv).1
  have hkl := (List.getElem?_eq_some_iff.mp hx).1
  refine ⟨sin, fun j hj => ?_, ?_⟩
  · rw [hnx]
    exact List.getElem?_set_ne (Ne.symm hj)
  · cases h2 : (nx ss xs k).2
    · refine .inl ⟨rfl, ?_⟩
      rw [hnx] at h2 ⊢
      have e := tr_acc h2
      have q := lft_set (triedM v x (topM xs k)).1 hsc hx
      dsimp only at e q ⊢
      rw [e, hp] at q
      omega
    · refine .inr ⟨rfl, ?_, ?_⟩
      · rw [hnx] at h2 ⊢
        have e := tr_ref h2
        have q := lft_set (triedM v x (topM xs k)).1 hsc hx
        have e2 : (triedM v x (topM xs k)).1.p = x.p := by
          rw [e]
          split <;> rfl
        dsimp only at q ⊢
        rw [e2] at q
        omega
      · intro sc' x' p' h1 h3 h4 h5
        rw [hnx] at h2 h3
        have e := tr_ref h2
        dsimp only at h3
        rw [List.getElem?_set_self hkl] at h3
        cases h3
        rw [hsc] at h1
        cases h1
        have e2 : (triedM v x (topM xs k)).1.p = x.p := by
          rw [e]
          split <;> rfl
        obtain rfl : p' = p := by omega
        rw [hv] at h5
        cases h5
        rw [e, if_pos rfl]
        dsimp only
        omega
/-- a turn: each script that has a step left is tried once -/
structure Trn (ss : List (List Wd)) (R : List Row → Prop) (xs : List Row) (ks : List Nat) (ys : List Row) : Prop where
  si : SI ss ys
  r : R ys
  same : ∀ j, j ∉ ks → ys[j]? = xs[j]?
  le : lft ss ys ≤ lft ss xs
  all : lft ss ys < lft ss xs ∨ ((∀ j ∈ ks, Pnd ss ys j) ∧ (Stl ss xs → ys = xs ∧ ∀ j ∈ ks, (nx ss xs j).2 = true))
theorem Trn.wait {ss : List (List Wd)} {R : List Row → Prop} {xs ys : List Row} {ks : List Nat} (h : Trn ss R xs ks ys) (si : SI ss xs) {k : Nat} (hk : k ∉ ks) : k ∈ wt ss ys ↔ k ∈ wt ss xs := by
  have l1 : ss.length = xs.length := paired_len si
  have l2 : ss.length = ys.length := paired_len h.si
  have e := h.same k hk
  constructor
  · intro q
    obtain ⟨sc, x, hj, hsc, hx, hp⟩ := waitL_mem q
    exact waitL_has hsc (by rw [← e]; exact hx) hp (by omega)
  · intro q
    obtain ⟨sc, x, hj, hsc, hx, hp⟩ := waitL_mem q
    exact waitL_has hsc (by rw [e]; exact hx) hp (by omega)
theorem Trn.snoc {ss : List (List Wd)} {R : List Row → Prop} {xs ys : List Row} {ks : List Nat} {k : Nat} (ok : ∀ sc ∈ ss, okScr sc) (hR : ∀ ys k, R ys → k ∈ wt ss ys → R (nx ss ys k).1) (h : Trn ss R xs ks ys) (si : SI ss xs) (hk : k ∉ ks) (hw : k ∈ wt ss xs) : Trn ss R xs (ks ++ [k]) (nx ss ys k).1 := by
  have hwy := (h.wait si hk).mpr hw
  obtain ⟨s1, s2, s3⟩ := try_one ok h.si hwy
  refine ⟨s1, hR _ _ h.r hwy, fun j hj => ?_, ?_, ?_⟩
  · rw [List.mem_append, not_or] at hj
    rw [s2 j fun z => hj.2 (List.mem_singleton.mpr z)]
    exact h.same j hj.1
  · have := h.le
    rcases s3 with ⟨_, q⟩ | ⟨_, q, _⟩ <;> omega
  · have hle := h.le
    rcases s3 with ⟨_, q⟩ | ⟨q0, q, q2⟩
    · exact .inl (by omega)
    · rcases h.all with hh | ⟨hp, hs⟩
      · exact .inl (by omega)
      · refine .inr ⟨fun j hj => ?_, fun st => ?_⟩
        · by_cases e : j = k
          · subst e
            exact q2
          · have hj' : j ∈ ks := by
              rcases List.mem_append.mp hj with hj | hj
              · exact hj
              · exact absurd (List.mem_singleton.mp hj) e
            intro sc x p h1 h2
            rw [s2 j e] at h2
            exact hp j hj' sc x p h1 h2
        · obtain ⟨e, ha⟩ := hs st
          subst e
          refine ⟨st k hw q0, fun j hj => ?_⟩
          rcases List.mem_append.mp hj with hj | hj
          · exact ha j hj
          · obtain rfl := List.mem_singleton.mp hj
            exact q0
/-- behind a whole turn there is less left, or refusals change nothing from now on -/
theorem Trn.done {ss : List (List Wd)} {R : List Row → Prop} {xs ys : List Row} {ks : List Nat} (ok : ∀ sc ∈ ss, okScr sc) (h : Trn ss R xs ks ys) (si : SI ss xs) (hp : ks.Perm (wt ss xs)) (hne : wt ss xs ≠ []) (hs : stk ss xs = false) :
    lft ss ys < lft ss xs ∨ (lft ss ys = lft ss xs ∧ Stl ss ys ∧ ¬ Stl ss xs) := by
  have hle := h.le
  rcases h.all with hh | ⟨h1, h2⟩
  · exact .inl hh
  · rcases Nat.lt_or_eq_of_le hle with hh | he
    · exact .inl hh
    · refine .inr ⟨he, Pnd.stl ok h.si fun k hk => ?_, fun st => ?_⟩
      · by_cases hm : k ∈ ks
        · exact h1 k hm
        · exact absurd (hp.mem_iff.mpr ((h.wait si hm).mp hk)) hm
      · obtain ⟨_, ha⟩ := h2 st
        have : stk ss xs = true := by
          unfold stk
          rw [Bool.and_eq_true_iff]
          refine ⟨?_, List.all_eq_true.mpr fun k hk => ha k (hp.mem_iff.mpr hk)⟩
          cases hw : wt ss xs with
          | nil => exact absurd hw hne
          | cons a r => rfl
        rw [hs] at this
        cases this
/-- how far the turns have come -/
def Far (ss : List (List Wd)) (i : Nat) (xs : List Row) : Prop := wt ss xs = [] ∨ 2 * lft ss xs + i ≤ 2 * tot ss ∨ (Stl ss xs ∧ 2 * lft ss xs + i ≤ 2 * tot ss + 1)
theorem Far.zero (ss : List (List Wd)) : Far ss 0 (s0 ss) := .inr (.inl (by rw [lft_zero]; omega))
theorem Far.turn {ss : List (List Wd)} {R : List Row → Prop} {xs ys : List Row} {ks : List Nat} {i : Nat} (ok : ∀ sc ∈ ss, okScr sc) (h : Trn ss R xs ks ys) (si : SI ss xs) (hp : ks.Perm (wt ss xs)) (hs : stk ss xs = false) (f : Far ss i xs) : Far ss (i + 1) ys := by
  by_cases hne : wt ss xs = []
  · left
    have hk : ks = [] := by
      rw [hne] at hp
      exact List.perm_nil.mp hp
    subst hk
    refine List.eq_nil_iff_forall_not_mem.mpr fun k q => ?_
    have := (h.wait si (k := k) List.not_mem_nil).mp q
    rw [hne] at this
    cases this
  · have hd := h.done ok si hp hne hs
    rcases f with f | f | ⟨st, f⟩
    · exact absurd f hne
    · rcases hd with q | ⟨q, st, _⟩
      · exact .inr (.inl (by omega))
      · exact .inr (.inr ⟨st, by omega⟩)
    · rcases hd with q | ⟨_, _, q⟩
      · exact .inr (.inl (by omega))
      · exact absurd st q
theorem Far.done {ss : List (List Wd)} {xs : List Row} {i : Nat} (hi : 2 + 2 * tot ss ≤ i) (f : Far ss i xs) : wt ss xs = [] := by
  rcases f with f | f | ⟨_, f⟩
  · exact f
  · omega
  · omega
end C83

set_option Elab.async false
set_option maxRecDepth 100000
set_option maxHeartbeats 4000000
set_option linter.all false
namespace C83
open PySem L2 My M78
abbrev sRch : Stmt := top 42
abbrev nRch : List Str := ["_law_scripts_here", "_law_tries", "_law_found", "_law_at", "_law_waiting", "_law_here", "_law_k", "_law_there", "_law_refused_here"]
theorem scRch : FnScope nRch ["_law_scripts_here", "_law_tries"] (defScope sRch) := ⟨rfl, rfl, rfl, by decide +kernel, rfl, by decide +kernel, by decide +kernel⟩

/-- how many steps, as the law keeps it -/
def VD (e : Nd) (v : V) : Prop := v = .int (e.d : Int)
section
variable {P : Program} {w : World} {K : PySem.W.Frag} {mg : Str → Option Value} {base : Heap}

def spRch (P : Program) (w : World) : Sp := fun vs H Q _ => ∃ (A : Addr) (ss : List (List Wd)) (tr : Bool), vs = [.ref A, .bl tr] ∧ Tp H (.ref A) (scD ss) ∧ Ok4 ss ∧ (∃ m o, H m = some o ∧ NoT H m) ∧
  ∀ (D : Addr) (H' : Hp) (N : Nat) (bs : List BE), Same H H' → H D = none → Sd P w H' D bs → RelB VD (bfs ss tr N) bs → (bfs ss tr N).length ≤ N → Q (.ref D) H'
theorem pr_rch (D' : Df K mg "_law_reached" sRch ["_law_scripts_here", "_law_tries"]) (T : Ty mg) (PB : Pr P w K mg base 1 "_law_begun" ["_law_scripts_here"] spBegun) (PL : Pr P w K mg base 4 "_law_left" ["_law_scripts_here", "_law_here"] spLeft)
    (PAf : Pr P w K mg base 2 "_law_after" ["_law_scripts_here", "_law_here", "_law_at"] spAfter) : Pr P w K mg base 5 "_law_reached" ["_law_scripts_here", "_law_tries"] (spRch P w) := by
  refine D'.pr scRch (fun vs H Q E h => ?_) (fun f cdv A outer s H vs Q E hr h => ?_)
  · obtain ⟨A, ss, tr, rfl, _⟩ := h
    rfl
  · obtain ⟨A, ss, tr, rfl, tA, ok4, ⟨m, o, hm, nTm⟩, k⟩ := h
    have nd := scRch.nd
    have hr1 := hr.mono (show 1 ≤ 4 by decide)
    have hr2 := hr.mono (show 2 ≤ 4 by decide)
    have ok := ok4.ok
    have hbnd := bnd_small ok4
    have l4 := ok4.l4
    refine ⟨_, (pss_cons (ps_par (by rfl) nd (i := 2) (j := 3) rfl rfl (by decide) rfl rfl (pa_cons (pe_ndisp hr.units (pe_callP PB hr1 (by rfl) (pa_cons (pv 0) pa_nil)) pe_int) (pa_cons pe_int pa_nil)) (by rfl))
      (pss_cons (ps_asg (pe_callTy (call_listN rfl) (by rfl) T.list (by decide +kernel) (pa_cons (pv 2) pa_nil)) (pg_name (i := 4) nd rfl (Or.inl rfl)))
      (pss_cons (ps_while PassesOwn.never (pt_cmpR op_lt (pv 3) (pe_callB call_len (by rfl) T.len PySem.boot_len (pa_cons (pv 4) pa_nil)) (nomark _))
        (pss_cons (ps_asg (pe_ix ix_list (pv 4) (pv 3) (fun _ _ => rfl)) (pg_name (i := 5) nd rfl (Or.inl rfl)))
        (pss_cons (ps_asg (pe_op op_add (pv 3) pe_int) (pg_name (i := 3) nd rfl (Or.inl rfl)))
        (pss_one (ps_for PassesOwn.never rfl (pi_list (pe_callP PL hr (by rfl) (pa_cons (pv 0) (pa_cons (pv 5) pa_nil)))) (pg_name (i := 6) nd rfl (Or.inl rfl))
          (pss_cons (ps_asg (pe_callP PAf hr2 (by rfl) (pa_cons (pv 0) (pa_cons (pv 5) (pa_cons (pv 6) pa_nil)))) (pg_tup rfl (pgs_cons (pg_name (i := 7) nd rfl (Or.inl rfl)) (pgs_cons (pg_name (i := 8) nd rfl (Or.inl rfl)) pgs_nil))))
          (pss_one (ps_if (PW.pt (pw_and (PW.pt (pw_or (pt_val (pv 1)) (pw_or1 (pt_not (pt_val (pv 8)))))) (pw_and1 (pt_cmp (pc_nnotin hr.units (pv 7) (pv 2))))))
            (pss_cons (ps_nput hr.units (pv 2) (pv 7) (pe_op op_add (pe_nget hr.units (pv 2) (pv 5) (fun _ _ => rfl)) pe_int) rfl)
            (pss_one (ps_expr (pe_bm PySem.F.plainAttrs_list PySem.F.slot_list_append PySem.F.type_list_append mt_append (pv 4) (pa_cons (pv 7) pa_nil)))))
            pss_nil))))))))
      (pss_one (ps_ret (pv 2)))))), ?_⟩
    -- found = {begun: 0}
    intro D nD
    generalize hD : upd H D _ = H4
    have sD : Same H H4 := hD ▸ Same.new nD
    have eD : H4 D = some (NDO P w D []) := hD ▸ upd_same
    clear hD
    have nTD : NoT H4 D := fun xs z => by
      rw [eD] at z
      unfold NDO at z
      cases z
    have t4 := tA.mono (.same sD)
    refine ⟨_, rfl, D, A, _, ss, eD, rfl, t4.at nTD, (by omega), fun q2 H5 nq2 s5 a5 => ?_⟩
    have t2 : Tp H5 (.ref q2) (stD (s0 ss)) := a5.tp (isT_st _)
    have eD5 := s5 _ _ eD
    refine ⟨_, _, rfl, eD5, sk (s0 ss), q2, rfl, t2.key, sk_depth _, ?_⟩
    generalize hD6 : upd H5 D _ = H6
    have k56 : KeepT H5 H6 := hD6 ▸ KeepT.ext eD5
    have eD6 : H6 D = some (NDO P w D [kvB (s0 ss, q2, .int 0)]) := hD6 ▸ upd_same
    have sH6 : Same H H6 := fun b u e => by
      rw [← hD6, upd_ne (ne_of_none e nD)]
      exact s5 _ _ (sD _ _ e)
    clear hD6
    refine ⟨_, _, rfl, ?_⟩
    have sd6 : Sd P w H6 D [(s0 ss, q2, .int 0)] := .one eD6 (t2.mono k56)
    -- waiting = list(found)
    refine ⟨_, rfl, ?_⟩
    dsimp only [tNil]
    refine ⟨D, _, rfl, eD6, fun R nR => ?_⟩
    generalize hR : upd H6 R _ = H7
    have s67 : Same H6 H7 := hR ▸ Same.new nR
    have eR : H7 R = some (.lst [.ref q2]) := hR ▸ upd_same
    clear hR
    have hRn : H R = none := Same.free sH6 nR
    have bf7 : Bf P w H7 R D [(s0 ss, q2, .int 0)] := ⟨eR, sd6.same s67⟩
    have rel7 : RelB VD (bfs ss tr 0) [(s0 ss, q2, .int 0)] := .cons ⟨rfl, rfl⟩ .nil
    have t7 := ((t4.mono (.same s5)).mono k56).mono (.same s67)
    have sH7 := Same.tr sH6 s67
    clear t4 a5 eD eD5 eD6 t2 sd6
    -- the search
    refine ⟨fun m σ H6 => ∃ (n : Nat) (bs : List BE) (o5 o6 o7 o8 : Option V), m + n = bnd ss ∧ σ = [some (.ref A), some (.bl tr), some (.ref D), some (.int (n : Int)), some (.ref R), o5, o6, o7, o8] ∧ Bf P w H6 R D bs ∧ RelB VD (bfs ss tr n) bs ∧
        n ≤ (bfs ss tr n).length ∧ Same H H6 ∧ Tp H6 (.ref A) (scD ss), ?_, ?_⟩
    · exact ⟨bnd ss, 0, _, _, _, _, _, rfl, rfl, bf7, rel7, Nat.zero_le _, sH7, t7⟩
    · rintro m' σ H6 ⟨n, bs, o5, o6, o7, o8, hmn, rfl, bf, rel, hnl, s6, t6⟩
      have inv := bfs_inv (tr := tr) ok n
      have hlen := inv.len
      have lbs : bs.length = (bfs ss tr n).length := (paired_len rel).symm
      refine ⟨_, rfl, _, rfl, _, _, rfl, .inl ⟨_, SqL.of bf.rows, rfl⟩, _, _, rfl, rfl, _, rfl, ?_⟩
      rw [List.length_map]
      by_cases hn : n < bs.length
      · rw [decide_eq_true (show (n : Int) < ((bs.length : Nat) : Int) by omega)]
        refine iteT ?_
        obtain ⟨e, he⟩ : ∃ e, (bfs ss tr n)[n]? = some e := ⟨_, List.getElem?_eq_getElem (by omega)⟩
        obtain ⟨b, hb, ebs, _⟩ := rel.at he
        have hem := List.mem_of_getElem? he
        have sie := inv.si e hem
        have tb := bf.sd.tp b (List.mem_of_getElem? hb)
        rw [← ebs] at tb
        have lxs : ss.length = e.s.length := paired_len sie
        refine ⟨fun σ' H' => ∃ (bs : List BE) (o5 o6 o7 o8 : Option V), σ' = [some (.ref A), some (.bl tr), some (.ref D), some (.int ((n + 1 : Nat) : Int)), some (.ref R), o5, o6, o7, o8] ∧ Bf P w H' R D bs ∧ RelB VD (bfs ss tr (n + 1)) bs ∧
            n + 1 ≤ (bfs ss tr (n + 1)).length ∧ Same H H' ∧ Tp H' (.ref A) (scD ss), ?_, ?_⟩
        · rintro σ' H' ⟨bs, o5, o6, o7, o8, r⟩
          exact ⟨m' - 1, by omega, n + 1, bs, o5, o6, o7, o8, by omega, r⟩
        · refine ⟨_, rfl, _, rfl, R, _, _, .ref b.2.1, rfl, rfl, SqL.of bf.rows, atI_nat (by rw [List.getElem?_map, hb]; rfl), ?_⟩
          refine ⟨_, rfl, _, _, rfl, rfl, ?_⟩
          have nT : NoT H6 R := .lst bf.rows
          refine ⟨_, rfl, _, rfl, R, A, b.2.1, ss, e.s, rfl, t6.at nT, tb.at nT, lxs, (by omega), fun q3 H7 nq3 s7 hl7 => ?_⟩
          obtain ⟨ws, hws⟩ : ∃ ws, ws = wt ss e.s := ⟨_, rfl⟩
          rw [show waitL ss e.s e.s.length = ws from hws.symm] at hl7
          refine ⟨q3, rfl, ⟨_, SqL.of hl7⟩, ?_⟩
          have hq3 : H q3 = none := Same.free s6 nq3
          have nq3R : q3 ≠ R := Ne.symm (ne_of_none bf.rows nq3)
          have nq3D : q3 ≠ D := Ne.symm (ne_of_none bf.sd.dict nq3)
          refine for_list (K := K) (xs := ws.map fun k : Nat => V.int (k : Int)) (fun j σ H8 => ∃ (bs : List BE) (o6 o7 o8 : Option V), σ = [some (.ref A), some (.bl tr), some (.ref D), some (.int ((n : Int) + 1)), some (.ref R), some (.ref b.2.1), o6, o7, o8] ∧ Bf P w H8 R D bs ∧
              RelB VD (expN ss tr e (bfs ss tr n) (ws.take j)) bs ∧ Same H H8 ∧ Tp H8 (.ref A) (scD ss) ∧ Tp H8 (.ref b.2.1) (stD e.s) ∧ H8 q3 = some (.lst (ws.map fun k : Nat => V.int (k : Int)))) ?_ ?_ ?_ ?_
          · exact ⟨bs, _, _, _, rfl, bf.same s7, rel, Same.tr s6 s7, t6.mono (.same s7), tb.mono (.same s7), hl7⟩
          · rintro j σ H8 _ ⟨bs, o6, o7, o8, _, _, _, _, _, _, h⟩
            exact SqL.of h
          · rintro j y σ H8 hy ⟨bs, o6, o7, o8, rfl, bf8, rel8, s8, t8, tb8, hl8⟩
            rw [List.getElem?_map] at hy
            obtain ⟨kk, hkk, rfl⟩ := Option.map_eq_some_iff.mp hy
            have hkw : kk ∈ wt ss e.s := hws ▸ List.mem_of_getElem? hkk
            obtain ⟨sc, x, p, v, hsc, hx, hp, hv, hnx, sin, haf⟩ := wt_nx ok sie hkw
            have nT8 : NoT H8 R := .lst bf8.rows
            have inv8 : InvN ss tr (expN ss tr e (bfs ss tr n) (ws.take j)) := inv.exp ok hem fun k hk => hws ▸ List.mem_of_mem_take hk
            obtain ⟨tl, htl⟩ := exp_pre ss tr e (ws.take j) (bfs ss tr n)
            have he8 : e ∈ expN ss tr e (bfs ss tr n) (ws.take j) := by
              rw [htl]
              exact List.mem_append_left _ hem
            refine ⟨_, rfl, _, rfl, _, rfl, R, A, b.2.1, _, ss, e.s, kk, p, sc, x, v, bf8.rows, rfl, t8.at nT8, tb8.at nT8, (by omega), hsc, hx, hp, hv, sie.nonneg, fun q4 H9 s9 a9 => ?_⟩
            rw [haf] at a9
            have e1 : (nx ss e.s kk).1 = e.s.set kk (triedM v x (topM e.s kk)).1 := by rw [hnx]
            have e2 : (nx ss e.s kk).2 = (triedM v x (topM e.s kk)).2 := by rw [hnx]
            rw [← e1, ← e2] at a9
            obtain ⟨_, u9, eu, _, h9, au⟩ := at_tup a9
            cases eu
            cases au with
            | @cons va _ _ _ aa ar =>
              cases ar with
              | cons ab ar2 =>
                cases ar2
                cases ab
                have ta9 := aa.tp (isT_st _)
                obtain ⟨a4, x4, rfl, _, _⟩ := Tp.ref (ds := (nx ss e.s kk).1.map rowD) ta9
                refine ⟨_, _, rfl, SqT.of h9, rfl, _, _, rfl, _, _, rfl, rfl, ?_⟩
                have bf9 := bf8.same s9
                have s89 := Same.tr s8 s9
                have t9 := t8.mono (.same s9)
                have tb9 := tb8.mono (.same s9)
                have skip : ∀ (hs : stepN ss tr e (expN ss tr e (bfs ss tr n) (ws.take j)) kk = expN ss tr e (bfs ss tr n) (ws.take j)), RelB VD (expN ss tr e (bfs ss tr n) (ws.take (j + 1))) bs := fun hs => by
                  rw [exp_take hkk, hs]
                  exact rel8
                -- the test
                refine ⟨_, rfl, _, rfl, ?_⟩
                cases htr : tr
                · subst htr
                  refine iteF ⟨_, rfl, _, rfl, ?_⟩
                  cases hrf : (nx ss e.s kk).2
                  · have hst : stepN ss false e (expN ss false e (bfs ss false n) (ws.take j)) kk = addN (expN ss false e (bfs ss false n) (ws.take j)) e (nx ss e.s kk).1 kk := by
                      unfold stepN
                      rw [if_pos (by rw [hrf]; rfl)]
                    refine iteT ?_
                    refine ⟨_, rfl, _, rfl, bs.map kvB, sk (nx ss e.s kk).1, D, a4, bf9.sd.key ta9, ?_⟩
                    rw [getB_is, getB_isSome, rel8.states]
                    refine ⟨_, rfl, ?_⟩
                    by_cases hin9 : (nx ss e.s kk).1 ∈ (expN ss false e (bfs ss false n) (ws.take j)).map Nd.s
                    · rw [decide_eq_true hin9]
                      refine iteF ?_
                      refine ⟨bs, _, _, _, rfl, bf9, skip ?_, s89, t9, tb9, s9 _ _ hl8⟩
                      rw [hst]
                      unfold addN
                      rw [if_pos hin9]
                    · rw [decide_eq_false hin9]
                      refine iteT ?_
                      obtain ⟨ve, hve, vde⟩ := rel8.val bf9.sd.nd he8
                      cases vde
                      have l10 : bs.length = (expN ss false e (bfs ss false n) (ws.take j)).length := (paired_len rel8).symm
                      have hlen10 := inv8.len
                      refine ⟨_, rfl, _, rfl, bs.map kvB, sk e.s, D, b.2.1, _, bf9.sd.key tb9, by rw [getB_is]; exact hve, _, _, rfl, rfl, ?_⟩
                      refine ⟨_, rfl, _, rfl, bs.map kvB, sk (nx ss e.s kk).1, D, a4, bf9.sd.key ta9, (by rw [List.length_map]; exact Nat.lt_of_le_of_lt (show bs.length ≤ 4100625 by omega) (by decide)), ?_⟩
                      have hR10 : upd H9 D (NDO P w D (putN (bs.map kvB) (sk (nx ss e.s kk).1) a4 (.int ((e.d : Int) + 1)))) R = some (.lst (bs.map fun b => V.ref b.2.1)) := by
                        rw [upd_ne bf9.ne]
                        exact bf9.rows
                      refine ⟨_, rfl, .inl ⟨rfl, _, SqL.of hR10⟩, _, rfl, R, _, _, rfl, rfl, hR10, (by rw [List.length_map]; exact Nat.lt_of_le_of_lt (show bs.length ≤ 4100625 by omega) (by decide)), ?_⟩
                      have hx10 : (nx ss e.s kk).1 ∉ bs.map (·.1) := by
                        rw [rel8.states]
                        exact hin9
                      have bfP := bf9.push (v := .int ((e.d : Int) + 1)) hx10 ta9
                      have kP : KeepT H9 _ := (KeepT.ext (o := NDO P w D (putN (bs.map kvB) (sk (nx ss e.s kk).1) a4 (.int ((e.d : Int) + 1)))) bf9.sd.dict).trans (KeepT.lst (o := .lst ((bs.map fun b => V.ref b.2.1) ++ [.ref a4])) hR10)
                      refine ⟨bs ++ [((nx ss e.s kk).1, a4, V.int ((e.d : Int) + 1))], _, _, _, rfl, bfP, ?_, fun bb u eb => ?_, t9.mono kP, tb9.mono kP, ?_⟩
                      · rw [exp_take hkk, hst]
                        unfold addN
                        rw [if_neg hin9]
                        exact rel8.push rfl rfl
                      · rw [upd_ne (ne_of_none eb hRn), upd_ne (ne_of_none eb nD)]
                        exact s89 _ _ eb
                      · rw [upd_ne nq3R, upd_ne nq3D]
                        exact s9 _ _ hl8
                  · refine iteF ?_
                    refine iteF ?_
                    refine ⟨bs, _, _, _, rfl, bf9, skip ?_, s89, t9, tb9, s9 _ _ hl8⟩
                    unfold stepN
                    rw [if_neg (by rw [hrf]; decide)]
                · subst htr
                  refine iteT ?_
                  have hst : stepN ss true e (expN ss true e (bfs ss true n) (ws.take j)) kk = addN (expN ss true e (bfs ss true n) (ws.take j)) e (nx ss e.s kk).1 kk := by
                    unfold stepN
                    rw [if_pos (by rfl)]
                  refine iteT ?_
                  refine ⟨_, rfl, _, rfl, bs.map kvB, sk (nx ss e.s kk).1, D, a4, bf9.sd.key ta9, ?_⟩
                  rw [getB_is, getB_isSome, rel8.states]
                  refine ⟨_, rfl, ?_⟩
                  by_cases hin9 : (nx ss e.s kk).1 ∈ (expN ss true e (bfs ss true n) (ws.take j)).map Nd.s
                  · rw [decide_eq_true hin9]
                    refine iteF ?_
                    refine ⟨bs, _, _, _, rfl, bf9, skip ?_, s89, t9, tb9, s9 _ _ hl8⟩
                    rw [hst]
                    unfold addN
                    rw [if_pos hin9]
                  · rw [decide_eq_false hin9]
                    refine iteT ?_
                    obtain ⟨ve, hve, vde⟩ := rel8.val bf9.sd.nd he8
                    cases vde
                    have l10 : bs.length = (expN ss true e (bfs ss true n) (ws.take j)).length := (paired_len rel8).symm
                    have hlen10 := inv8.len
                    refine ⟨_, rfl, _, rfl, bs.map kvB, sk e.s, D, b.2.1, _, bf9.sd.key tb9, by rw [getB_is]; exact hve, _, _, rfl, rfl, ?_⟩
                    refine ⟨_, rfl, _, rfl, bs.map kvB, sk (nx ss e.s kk).1, D, a4, bf9.sd.key ta9, (by rw [List.length_map]; exact Nat.lt_of_le_of_lt (show bs.length ≤ 4100625 by omega) (by decide)), ?_⟩
                    have hR10 : upd H9 D (NDO P w D (putN (bs.map kvB) (sk (nx ss e.s kk).1) a4 (.int ((e.d : Int) + 1)))) R = some (.lst (bs.map fun b => V.ref b.2.1)) := by
                      rw [upd_ne bf9.ne]
                      exact bf9.rows
                    refine ⟨_, rfl, .inl ⟨rfl, _, SqL.of hR10⟩, _, rfl, R, _, _, rfl, rfl, hR10, (by rw [List.length_map]; exact Nat.lt_of_le_of_lt (show bs.length ≤ 4100625 by omega) (by decide)), ?_⟩
                    have hx10 : (nx ss e.s kk).1 ∉ bs.map (·.1) := by
                      rw [rel8.states]
                      exact hin9
                    have bfP := bf9.push (v := .int ((e.d : Int) + 1)) hx10 ta9
                    have kP : KeepT H9 _ := (KeepT.ext (o := NDO P w D (putN (bs.map kvB) (sk (nx ss e.s kk).1) a4 (.int ((e.d : Int) + 1)))) bf9.sd.dict).trans (KeepT.lst (o := .lst ((bs.map fun b => V.ref b.2.1) ++ [.ref a4])) hR10)
                    refine ⟨bs ++ [((nx ss e.s kk).1, a4, V.int ((e.d : Int) + 1))], _, _, _, rfl, bfP, ?_, fun bb u eb => ?_, t9.mono kP, tb9.mono kP, ?_⟩
                    · rw [exp_take hkk, hst]
                      unfold addN
                      rw [if_neg hin9]
                      exact rel8.push rfl rfl
                    · rw [upd_ne (ne_of_none eb hRn), upd_ne (ne_of_none eb nD)]
                      exact s89 _ _ eb
                    · rw [upd_ne nq3R, upd_ne nq3D]
                      exact s9 _ _ hl8
          · rintro σ H8 ⟨bs, o6, o7, o8, rfl, bf8, rel8, s8, t8, tb8, hl8⟩
            rw [List.length_map, List.take_length] at rel8
            have hbn : bfs ss tr (n + 1) = expN ss tr e (bfs ss tr n) ws := by
              rw [bfs_next he, hws]
            rw [← hbn] at rel8
            obtain ⟨tl, htl⟩ := bfs_pre ss tr n
            refine ⟨bs, _, _, _, _, rfl, bf8, rel8, ?_, s8, t8⟩
            rw [htl, List.length_append]
            omega
      · rw [decide_eq_false (show ¬ (n : Int) < ((bs.length : Nat) : Int) by omega)]
        refine iteF ?_
        exact ⟨_, rfl, k D _ n bs s6 nD bf.sd rel (by omega)⟩
end
end C83

set_option Elab.async false
set_option maxRecDepth 100000
set_option maxHeartbeats 4000000
set_option linter.all false
namespace C83
open PySem L2 My M78
abbrev sLs : Stmt := top 43
abbrev nLs : List Str := ["_law_scripts_here", "_law_here", "_law_some", "_law_k"]
theorem scLs : FnScope nLs ["_law_scripts_here", "_law_here"] (defScope sLs) := ⟨rfl, rfl, rfl, by decide +kernel, rfl, by decide +kernel, by decide +kernel⟩
def boolD (bs : List Bool) : List PyData := bs.map .bool
theorem shaped_bools (bs : List Bool) : SeqAt.shaped (.list (boolD bs)) = true := by
  have h1 : PyData.canLayAll0 (boolD bs) = true := by
    induction bs with
    | nil => rfl
    | cons k r ih =>
      show (PyData.canLay0 (.bool k) && PyData.canLayAll0 (boolD r)) = true
      rw [ih]
      rfl
  have h2 : PyData.depthAll (boolD bs) = 0 := by
    clear h1
    induction bs with
    | nil => rfl
    | cons k r ih =>
      show max (PyData.depth (.bool k)) (PyData.depthAll (boolD r)) = 0
      rw [ih]
      rfl
  unfold SeqAt.shaped
  rw [Bool.and_eq_true_iff]
  refine ⟨?_, decide_eq_true ?_⟩
  · simpa only [PyData.canLay0] using h1
  · simp only [PyData.depth]
    rw [h2]
    decide

theorem eqv_bools_e (l : List Bool) : PyData.eqv (.list (boolD l)) (.list []) = l.isEmpty := by
  cases l <;> rfl
theorem at_bools {m : Addr} {H : Hp} : ∀ bs : List Bool, AtAll m H (bs.map V.bl) (boolD bs)
  | [] => .nil
  | b :: r => .cons (.bl b) (at_bools r)

def sts (ss : List (List Wd)) (ks : List Nat) (j : Nat) : List Row := runs ss (s0 ss) (ks.take j)
theorem Pth.at {ss : List (List Wd)} {ks : List Nat} {ys : List Row} {tr : Bool} (h : Pth ss tr (s0 ss) ks ys) (ok : ∀ sc ∈ ss, okScr sc) {j kk : Nat} (hj : ks[j]? = some kk) :
    SI ss (sts ss ks j) ∧ kk ∈ wt ss (sts ss ks j) ∧ sts ss ks (j + 1) = (nx ss (sts ss ks j) kk).1 := by
  have hl : j < ks.length := (List.getElem?_eq_some_iff.mp hj).1
  refine ⟨(h.take j (by omega)).si ok (SI.zero ss), (h.runs.2 j kk hj).1, ?_⟩
  unfold sts
  rw [take_succ' hj, runs_snoc]
theorem Pth.last {ss : List (List Wd)} {ks : List Nat} {ys : List Row} {tr : Bool} (h : Pth ss tr (s0 ss) ks ys) : sts ss ks ks.length = ys := by
  unfold sts
  rw [List.take_length]
  exact h.runs.1
section
variable {P : Program} {w : World} {K : PySem.W.Frag} {mg : Str → Option Value} {base : Heap}

theorem pr_ls (D' : Df K mg "_law_is_stuck" sLs ["_law_scripts_here", "_law_here"]) (T : Ty mg) (PL : Pr P w K mg base 4 "_law_left" ["_law_scripts_here", "_law_here"] spLeft)
    (PAf : Pr P w K mg base 2 "_law_after" ["_law_scripts_here", "_law_here", "_law_at"] spAfter) : Pr P w K mg base 5 "_law_is_stuck" ["_law_scripts_here", "_law_here"] spIss := by
  refine D'.pr scLs (fun vs H Q E h => ?_) (fun f cdv A outer s H vs Q E hr h => ?_)
  · obtain ⟨A, B, ss, xs, rfl, _⟩ := h
    rfl
  · obtain ⟨A, B, ss, xs, rfl, tA, tB, si, ok4, ⟨mm, hmm⟩, k⟩ := h
    have nd := scLs.nd
    have hr2 := hr.mono (show 2 ≤ 4 by decide)
    have l4 := ok4.l4
    have lxs : ss.length = xs.length := paired_len si
    refine ⟨_, (pss_cons (ps_setLc (i := 2) (own := [("_law_k", 3)]) (g := gName 3) (tt := tYes) (te := tOp (rIxT K) (tCall spAfter [] E0 (tCons (tVar 0) (tCons (tVar 1) (tCons (tVar 3) tNil)))) (tC (.int 1))) (by rfl) nd rfl rfl (sw_true rfl rfl rfl (by decide +kernel)) (pi_list (pe_callP PL hr (by rfl) (pa_cons (pv 0) (pa_cons (pv 1) pa_nil))))
  (blkOk_by (own := [("_law_k", 3)]) (N := nLs) (sc := defScope sLs) (by decide +kernel))
  (fun _ _ _ _ _ => pg_name (i := 3) nd rfl (Or.inl rfl) (Or.inr rfl)) (fun _ _ _ _ _ => pts_nil)
  (fun _ _ _ _ _ => (pe_ix ix_tup (pe_callP PAf hr2 (by rfl) (pa_cons (pv 0) (pa_cons (pv 1) (pa_cons (pv 3) pa_nil)))) pe_int (fun _ _ => rfl))))
      (pss_one (ps_ret (pe_and (pe_cmpR (op_neD hr.units) (pv 2) (pe_lst pa_nil) (nomark _)) (pe_one (pe_callB (cr_all rfl) (by rfl) T.all (by decide +kernel) (pa_cons (pv 2) pa_nil))))))), ?_⟩
    refine ⟨_, rfl, _, rfl, mm, A, B, ss, xs, rfl, tA.at hmm, tB.at hmm, lxs, (by omega), fun Lf H2 nLf s2 hLf => ?_⟩
    obtain ⟨ws, hws⟩ : ∃ ws, ws = wt ss xs := ⟨_, rfl⟩
    rw [show waitL ss xs xs.length = ws from hws.symm] at hLf
    refine ⟨Lf, rfl, ⟨_, SqL.of hLf⟩, fun Dl hD => ?_⟩
    refine lc_list (K := K) (a := Lf) (xs := ws.map fun k : Nat => V.int (k : Int)) (fun i H3 => Same H2 H3 ∧ H3 Dl = some (.lst (((ws.take i).map fun k => (nx ss xs k).2).map V.bl))) ?_ ?_ ?_ ?_
    · exact ⟨same_new hD, upd_same⟩
    · exact fun i H3 _ q => SqL.of (q.1 _ _ hLf)
    · rintro i y H3 hy ⟨s3, hl3⟩
      rw [List.getElem?_map] at hy
      obtain ⟨kk, hkk, rfl⟩ := Option.map_eq_some_iff.mp hy
      have hkw : kk ∈ wt ss xs := hws ▸ List.mem_of_getElem? hkk
      obtain ⟨sc, x, p, v, hsc, hx, hp, hv, hnx, sin, haf⟩ := wt_nx ok4.ok si hkw
      have s23 := Same.tr s2 s3
      have nT3 : NoT H3 Dl := .lst hl3
      have t3 := tA.mono (.same s23)
      have tb3 := tB.mono (.same s23)
      refine ⟨rfl, ?_⟩
      refine ⟨_, rfl, _, rfl, _, rfl, Dl, A, B, _, ss, xs, kk, p, sc, x, v, hl3, rfl, t3.at nT3, tb3.at nT3, (by omega), hsc, hx, hp, hv, si.nonneg, fun q4 H4 s4 a4 => ?_⟩
      rw [haf] at a4
      obtain ⟨_, u4, eu, _, h4, au⟩ := at_tup a4
      cases eu
      cases au with
      | @cons va _ _ _ aa ar =>
        cases ar with
        | cons ab ar2 =>
          cases ar2
          cases ab
          refine ⟨_, _, _, _, rfl, rfl, SqT.of h4, rfl, ?_⟩
          refine ⟨_, s4 _ _ hl3, ?_, ?_, ?_⟩
          · rw [List.length_map, List.length_map, List.length_take]
            have : ws.length ≤ 4 := by
              have h : (wt ss xs).length ≤ xs.length := waitL_len ss xs xs.length
              rw [hws]
              omega
            exact small6 (by omega)
          · intro b u e
            rw [upd_ne (ne_of_none e hD)]
            exact s4 _ _ (s3 _ _ e)
          · have e2 : (nx ss xs kk).2 = (triedM v x (topM xs kk)).2 := by rw [hnx]
            rw [upd_same, take_succ' hkk, List.map_append, List.map_append, ← e2]
            rfl
    · rintro H3 ⟨s3, hl3⟩
      rw [List.length_map, List.take_length] at hl3
      have s23 := Same.tr s2 s3
      refine ⟨_, rfl, (by show 0 ≤ sizeLine; decide), fun N1 nN1 => ?_⟩
      generalize hN1 : upd H3 N1 _ = H4
      have sN1 : Same H3 H4 := hN1 ▸ Same.new nN1
      have eN1 : H4 N1 = some (.lst []) := hN1 ▸ upd_same
      clear hN1
      refine ⟨_, _, Dp.lst (SqL.of (sN1 _ _ hl3)) (at_bools (m := Lf) _).dp, Dp.lst (SqL.of eN1) .nil, shaped_bools _, rfl, ?_⟩
      rw [eqv_bools_e]
      refine ⟨_, rfl, ?_⟩
      have hem : (ws.map fun k => (nx ss xs k).2).isEmpty = ws.isEmpty := by cases ws <;> rfl
      rw [hem]
      have s4 := Same.tr s23 sN1
      cases hE : ws.isEmpty
      · refine iteT ?_
        refine ⟨_, rfl, _, _, rfl, SqL.of (sN1 _ _ hl3), ?_⟩
        have : (ws.map fun k => (nx ss xs k).2).all id = stk ss xs := by
          unfold stk
          rw [List.all_map, ← hws, hE]
          rfl
        rw [this]
        exact k _ s4
      · refine iteF ?_
        have : stk ss xs = false := by
          unfold stk
          rw [← hws, hE]
          rfl
        rw [← this]
        exact k _ s4
end
end C83

set_option Elab.async false
set_option maxRecDepth 100000
set_option linter.all false
/-! Choices of pairs by size, and all of them sorted. -/
namespace M83
open PySem PySem.W PyProof.Rows My
abbrev P2 := Nat × Nat
def pD (p : P2) : PyData := .tuple [.int (p.1 : Int), .int (p.2 : Int)]
def sD (s : List P2) : PyData := .tuple (s.map pD)
def kD (s : List P2) : PyData := .tuple [.int (s.length : Int), sD s]
def pLt (p q : P2) : Prop := p.1 < q.1 ∨ (p.1 = q.1 ∧ p.2 < q.2)
def stoks (s : List P2) : List (Int ⊕ List Nat) := keyToksAll (s.map pD)
theorem stoks_cons (p : P2) (s : List P2) : stoks (p :: s) = .inl 1 :: .inl 1 :: .inl (p.1 : Int) :: .inl 1 :: .inl (p.2 : Int) :: .inl 0 :: stoks s := by
  unfold stoks
  rw [List.map_cons, toks_all_cons]
  simp [pD, keyToks, keyToksAll]
theorem ktoks (s : List P2) : keyToks (kD s) = .inl 1 :: .inl (s.length : Int) :: .inl 1 :: (stoks s ++ [.inl 0]) := by
  simp [kD, sD, stoks, keyToks, keyToksAll]
theorem stoks_inj : ∀ {s t : List P2}, stoks s = stoks t → s = t
  | [], [], _ => rfl
  | [], q :: t, h => by
    rw [stoks_cons] at h
    simp [stoks, keyToksAll] at h
  | p :: s, [], h => by
    rw [stoks_cons] at h
    simp [stoks, keyToksAll] at h
  | p :: s, q :: t, h => by
    rw [stoks_cons, stoks_cons] at h
    simp only [List.cons.injEq, Sum.inl.injEq, true_and] at h
    obtain ⟨h1, h2, h3⟩ := h
    rw [stoks_inj h3, show p = q from Prod.ext (by omega) (by omega)]
theorem kD_inj {s t : List P2} (h : keyToks (kD s) = keyToks (kD t)) : s = t := by
  rw [ktoks, ktoks] at h
  simp only [List.cons.injEq, Sum.inl.injEq, true_and] at h
  exact stoks_inj (List.append_cancel_right h.2)
/-- less, whatever follows -/
def sLt (s t : List P2) : Prop := ∀ l m, lexLt itemOrd (stoks s ++ l) (stoks t ++ m) = true
theorem blt_int (a b : Nat) (h : a < b) : itemOrd.blt (.inl (a : Int)) (.inl (b : Int)) = true := decide_eq_true (show (a : Int) < (b : Int) by omega)
theorem sLt_head {p q : P2} {s t : List P2} (h : pLt p q) : sLt (p :: s) (q :: t) := fun l m => by
  rw [stoks_cons, stoks_cons]
  simp only [List.cons_append]
  rw [lex_self (O := itemOrd), lex_self (O := itemOrd)]
  rcases h with h | ⟨h1, h2⟩
  · exact lex_true.mpr (.inl (blt_int _ _ h))
  · rw [h1, lex_self (O := itemOrd), lex_self (O := itemOrd)]
    exact lex_true.mpr (.inl (blt_int _ _ h2))
theorem sLt_cons {p : P2} {s t : List P2} (h : sLt s t) : sLt (p :: s) (p :: t) := fun l m => by
  rw [stoks_cons, stoks_cons]
  simp only [List.cons_append]
  rw [lex_self (O := itemOrd), lex_self (O := itemOrd), lex_self (O := itemOrd), lex_self (O := itemOrd), lex_self (O := itemOrd), lex_self (O := itemOrd)]
  exact h l m
def kLt (s t : List P2) : Prop := lexLt itemOrd (keyToks (kD s)) (keyToks (kD t)) = true
theorem kLt_len {s t : List P2} (h : s.length < t.length) : kLt s t := by
  unfold kLt
  rw [ktoks, ktoks, lex_self (O := itemOrd)]
  exact lex_true.mpr (.inl (blt_int _ _ h))
theorem kLt_same {s t : List P2} (h : s.length = t.length) (q : sLt s t) : kLt s t := by
  unfold kLt
  rw [ktoks, ktoks, lex_self (O := itemOrd), h, lex_self (O := itemOrd), lex_self (O := itemOrd)]
  exact q _ _
theorem kLt_ne {s t : List P2} (h : kLt s t) : s ≠ t := fun e => by
  subst e
  unfold kLt at h
  rw [lex_irrefl] at h
  cases h
/-- all choices of m of these, in order -/
def chs : List P2 → Nat → List (List P2)
  | _, 0 => [[]]
  | [], _ + 1 => []
  | x :: xs, m + 1 => (chs xs m).map (x :: ·) ++ chs xs (m + 1)
theorem chs_len : ∀ (xs : List P2) (m : Nat), (chs xs m).length ≤ 2 ^ xs.length
  | [], 0 => Nat.le_refl _
  | x :: xs, 0 => by
    show 1 ≤ 2 ^ _
    exact Nat.one_le_pow _ _ (by decide)
  | [], m + 1 => Nat.zero_le _
  | x :: xs, m + 1 => by
    have h1 := chs_len xs m
    have h2 := chs_len xs (m + 1)
    show ((chs xs m).map (x :: ·) ++ chs xs (m + 1)).length ≤ 2 ^ (xs.length + 1)
    rw [List.length_append, List.length_map, Nat.pow_succ]
    omega
theorem chs_mem : ∀ {xs : List P2} {m : Nat} {s : List P2}, s ∈ chs xs m ↔ s.Sublist xs ∧ s.length = m
  | xs, 0, s => by
    have : chs xs 0 = [[]] := by cases xs <;> rfl
    rw [this, List.mem_singleton]
    constructor
    · rintro rfl
      exact ⟨List.nil_sublist _, rfl⟩
    · rintro ⟨_, h⟩
      exact List.length_eq_zero_iff.mp h
  | [], m + 1, s => by
    constructor
    · intro h
      cases h
    · rintro ⟨h1, h2⟩
      rw [List.sublist_nil.mp h1] at h2
      cases h2
  | x :: xs, m + 1, s => by
    show s ∈ (chs xs m).map (x :: ·) ++ chs xs (m + 1) ↔ _
    rw [List.mem_append, List.mem_map, chs_mem (xs := xs) (m := m + 1), List.sublist_cons_iff]
    constructor
    · rintro (⟨t, ht, rfl⟩ | ⟨h1, h2⟩)
      · obtain ⟨h1, h2⟩ := chs_mem.mp ht
        exact ⟨.inr ⟨t, rfl, h1⟩, by show t.length + 1 = m + 1; rw [h2]⟩
      · exact ⟨.inl h1, h2⟩
    · rintro ⟨h1 | ⟨r, rfl, h1⟩, h2⟩
      · exact .inr ⟨h1, h2⟩
      · exact .inl ⟨r, chs_mem.mpr ⟨h1, Nat.succ.inj h2⟩, rfl⟩
theorem chs_sorted : ∀ {xs : List P2} {m : Nat}, xs.Pairwise pLt → (chs xs m).Pairwise sLt
  | xs, 0, _ => by
    have : chs xs 0 = [[]] := by cases xs <;> rfl
    rw [this]
    exact List.pairwise_singleton _ _
  | [], m + 1, _ => .nil
  | x :: xs, m + 1, h => by
    obtain ⟨h1, h2⟩ := List.pairwise_cons.mp h
    refine List.pairwise_append.mpr ⟨List.pairwise_map.mpr ((chs_sorted (m := m) h2).imp fun q => sLt_cons q), chs_sorted h2, fun a ha b hb => ?_⟩
    obtain ⟨t, _, rfl⟩ := List.mem_map.mp ha
    obtain ⟨hb1, hb2⟩ := chs_mem.mp hb
    cases b with
    | nil => cases hb2
    | cons y r => exact sLt_head (h1 y (hb1.subset (List.mem_cons_self ..)))
def allC (xs : List P2) : List (List P2) := (List.range (xs.length + 1)).flatMap fun m => chs xs m
theorem allC_mem {xs s : List P2} : s ∈ allC xs ↔ s.Sublist xs := by
  unfold allC
  rw [List.mem_flatMap]
  constructor
  · rintro ⟨m, _, h⟩
    exact (chs_mem.mp h).1
  · intro h
    exact ⟨s.length, List.mem_range.mpr (by have := h.length_le; omega), chs_mem.mpr ⟨h, rfl⟩⟩
theorem allC_sorted {xs : List P2} (h : xs.Pairwise pLt) : (allC xs).Pairwise kLt := by
  unfold allC
  refine List.pairwise_flatMap.mpr ⟨fun m _ => (chs_sorted (m := m) h).imp_of_mem fun ha hb q => kLt_same ?_ q, ?_⟩
  · rw [(chs_mem.mp ha).2, (chs_mem.mp hb).2]
  · refine List.Pairwise.imp ?_ (List.pairwise_lt_range (n := xs.length + 1))
    intro a b hab s hs t ht
    exact kLt_len (by rw [(chs_mem.mp hs).2, (chs_mem.mp ht).2]; exact hab)
/-- the law's picks -/
def pks (xs : List P2) : List (List P2) := xs.foldl (fun ps x => ps ++ ps.map (· ++ [x])) [[]]
theorem pks_snoc (xs : List P2) (x : P2) : pks (xs ++ [x]) = pks xs ++ (pks xs).map (· ++ [x]) := by
  unfold pks
  rw [List.foldl_append]
  rfl
theorem pks_len : ∀ n (xs : List P2), xs.length = n → (pks xs).length = 2 ^ n
  | 0, xs, h => by
    rw [List.length_eq_zero_iff.mp h]
    rfl
  | n + 1, xs, h => by
    rcases List.eq_nil_or_concat xs with rfl | ⟨l, b, rfl⟩
    · cases h
    · rw [List.concat_eq_append] at h ⊢
      rw [List.length_append] at h
      rw [pks_snoc, List.length_append, List.length_map, pks_len n l (Nat.succ.inj h), Nat.pow_succ]
      omega
theorem pks_mem : ∀ n {xs s : List P2}, xs.length = n → (s ∈ pks xs ↔ s.Sublist xs)
  | 0, xs, s, h => by
    rw [List.length_eq_zero_iff.mp h]
    show s ∈ [[]] ↔ _
    rw [List.mem_singleton, List.sublist_nil]
  | n + 1, xs, s, h => by
    rcases List.eq_nil_or_concat xs with rfl | ⟨l, b, rfl⟩
    · cases h
    · rw [List.concat_eq_append] at h ⊢
      rw [List.length_append] at h
      have hl : l.length = n := Nat.succ.inj h
      rw [pks_snoc, List.mem_append, List.mem_map, pks_mem n hl, List.sublist_append_iff]
      constructor
      · rintro (q | ⟨t, ht, rfl⟩)
        · exact ⟨s, [], (List.append_nil _).symm, q, List.nil_sublist _⟩
        · exact ⟨t, [b], rfl, (pks_mem n hl).mp ht, List.Sublist.refl _⟩
      · rintro ⟨a, c, rfl, h1, h2⟩
        rw [List.sublist_cons_iff] at h2
        rcases h2 with h2 | ⟨r, rfl, h2⟩
        · rw [List.sublist_nil.mp h2, List.append_nil]
          exact .inl h1
        · rw [List.sublist_nil.mp h2]
          exact .inr ⟨a, (pks_mem n hl).mpr h1, rfl⟩
theorem pks_nodup : ∀ n {xs : List P2}, xs.length = n → xs.Nodup → (pks xs).Nodup
  | 0, xs, h, _ => by
    rw [List.length_eq_zero_iff.mp h]
    exact List.nodup_cons.mpr ⟨List.not_mem_nil, List.nodup_nil⟩
  | n + 1, xs, h, hn => by
    rcases List.eq_nil_or_concat xs with rfl | ⟨l, b, rfl⟩
    · cases h
    · rw [List.concat_eq_append] at h hn ⊢
      rw [List.length_append] at h
      have hl : l.length = n := Nat.succ.inj h
      obtain ⟨n1, n2, n3⟩ := List.nodup_append.mp hn
      have ih := pks_nodup n hl n1
      rw [pks_snoc]
      refine List.nodup_append.mpr ⟨ih, ?_, fun a ha c hc => ?_⟩
      · refine List.pairwise_map.mpr (ih.imp fun q z => q ?_)
        exact List.append_cancel_right z
      · rintro rfl
        obtain ⟨t, _, rfl⟩ := List.mem_map.mp hc
        have := ((pks_mem n hl).mp ha).subset (List.mem_append_right _ (List.mem_singleton.mpr rfl))
        exact n3 b this b (List.mem_singleton.mpr rfl) rfl
theorem pLt_ne {p q : P2} (h : pLt p q) : p ≠ q := by
  rintro rfl
  rcases h with h | ⟨_, h⟩ <;> omega
theorem perm_picks {xs : List P2} (h : xs.Pairwise pLt) : (pks xs).Perm (allC xs) :=
  (List.perm_ext_iff_of_nodup (pks_nodup _ rfl (h.imp fun q => pLt_ne q)) ((allC_sorted h).imp fun q => kLt_ne q)).mpr fun a => (pks_mem _ rfl).trans allC_mem.symm
/-- the picks sorted are all choices, by size -/
theorem srt_picks {xs : List P2} (h : xs.Pairwise pLt) : srtD ((pks xs).map kD) = (allC xs).map kD := by
  have tot := sortLe_total (listOrd itemOrd) false keyToks
  refine List.Perm.eq_of_pairwise (le := fun a b => tokLe a b = true) ?_ ?_ ?_ ?_
  · intro a b ha hb h1 h2
    obtain ⟨s, _, rfl⟩ := List.mem_map.mp (List.mem_mergeSort.mp ha)
    obtain ⟨t, _, rfl⟩ := List.mem_map.mp hb
    have e1 : lexLt itemOrd (keyToks (kD t)) (keyToks (kD s)) = false := by
      have : (!lexLt itemOrd (keyToks (kD t)) (keyToks (kD s))) = true := h1
      simpa using this
    have e2 : lexLt itemOrd (keyToks (kD s)) (keyToks (kD t)) = false := by
      have : (!lexLt itemOrd (keyToks (kD s)) (keyToks (kD t))) = true := h2
      simpa using this
    rw [kD_inj (lex_total _ _ e2 e1)]
  · exact List.pairwise_mergeSort tot.trans (fun a b => by
      rcases tot.total a b with q | q
      · rw [q]; rfl
      · rw [q, Bool.or_true]) _
  · refine List.pairwise_map.mpr ((allC_sorted h).imp fun {s t} q => ?_)
    show (!lexLt itemOrd (keyToks (kD t)) (keyToks (kD s))) = true
    have q' : (listOrd itemOrd).blt (keyToks (kD s)) (keyToks (kD t)) = true := q
    rw [show lexLt itemOrd (keyToks (kD t)) (keyToks (kD s)) = false from KeyOrd.klt_asymm (O := listOrd itemOrd) q']
    rfl
  · exact (List.mergeSort_perm _ _).trans ((perm_picks h).map kD)
/-- the first choice that f takes -/
theorem first_at {xs : List P2} {f : List P2 → Bool} {i j : Nat} {s : List P2} (hi : i ≤ xs.length) (hb : ∀ k, k < i → ∀ t ∈ chs xs k, f t = false) (hj : (chs xs i)[j]? = some s) (hbj : ∀ t ∈ (chs xs i).take j, f t = false) (hs : f s = true) : (allC xs).find? f = some s := by
  have e : List.range (xs.length + 1) = List.range i ++ (i :: (List.range' (i + 1) (xs.length - i))) := by
    rw [List.range_eq_range', List.range_eq_range', show xs.length + 1 = i + (xs.length - i + 1) by omega, ← List.range'_append_1, Nat.zero_add, List.range'_succ]
  unfold allC
  rw [e, List.flatMap_append, List.flatMap_cons, List.find?_append, List.find?_append]
  have h1 : List.find? f ((List.range i).flatMap fun m => chs xs m) = none := by
    rw [List.find?_eq_none]
    intro t ht
    obtain ⟨k, hk, ht⟩ := List.mem_flatMap.mp ht
    rw [hb k (List.mem_range.mp hk) t ht]
    exact Bool.false_ne_true
  have h2 : List.find? f (chs xs i) = some s := by
    obtain ⟨hl, e2⟩ := List.getElem?_eq_some_iff.mp hj
    rw [List.find?_eq_some_iff_append]
    refine ⟨hs, (chs xs i).take j, (chs xs i).drop (j + 1), ?_, fun t ht => by rw [hbj t ht]; rfl⟩
    rw [← e2, ← List.drop_eq_getElem_cons hl, List.take_append_drop]
  rw [h1, h2]
  rfl
theorem first_none {xs : List P2} {f : List P2 → Bool} (h : ∀ k, k ≤ xs.length → ∀ t ∈ chs xs k, f t = false) : (allC xs).find? f = none := by
  rw [List.find?_eq_none]
  intro t ht
  obtain ⟨k, hk, ht⟩ := List.mem_flatMap.mp ht
  rw [h k (by have := List.mem_range.mp hk; omega) t ht]
  exact Bool.false_ne_true
theorem first_list {l : List (List P2)} {f : List P2 → Bool} {j : Nat} {s : List P2} (hj : l[j]? = some s) (hb : ∀ t ∈ l.take j, f t = false) (hs : f s = true) : l.find? f = some s := by
  obtain ⟨hl, e2⟩ := List.getElem?_eq_some_iff.mp hj
  rw [List.find?_eq_some_iff_append]
  refine ⟨hs, l.take j, l.drop (j + 1), ?_, fun t ht => by rw [hb t ht]; rfl⟩
  rw [← e2, ← List.drop_eq_getElem_cons hl, List.take_append_drop]
/-! the choices, pair by pair -/
theorem chs_drop {xs : List P2} {m i : Nat} {x : P2} (h : xs[i]? = some x) : chs (xs.drop i) (m + 1) = (chs (xs.drop (i + 1)) m).map (x :: ·) ++ chs (xs.drop (i + 1)) (m + 1) := by
  obtain ⟨hl, e⟩ := List.getElem?_eq_some_iff.mp h
  rw [List.drop_eq_getElem_cons hl, e]
  rfl
end M83

set_option Elab.async false
set_option maxRecDepth 100000
set_option maxHeartbeats 4000000
set_option linter.all false
/-! Calmed scripts, in plain Lean. -/
namespace C83
open PySem L2 My M78 M83
theorem bfs_stable {ss : List (List Wd)} {tr : Bool} {N : Nat} (h : (bfs ss tr N).length ≤ N) : ∀ j, bfs ss tr (N + j) = bfs ss tr N
  | 0 => rfl
  | j + 1 => by
    have ih := bfs_stable h j
    show (match (bfs ss tr (N + j))[N + j]? with | some x => expN ss tr x (bfs ss tr (N + j)) (wt ss x.s) | none => bfs ss tr (N + j)) = _
    rw [ih, List.getElem?_eq_none (by omega)]
theorem bfs_mono {ss : List (List Wd)} {tr : Bool} (n : Nat) : ∀ j, ∃ t, bfs ss tr (n + j) = bfs ss tr n ++ t
  | 0 => ⟨[], (List.append_nil _).symm⟩
  | j + 1 => by
    obtain ⟨t, ht⟩ := bfs_mono (ss := ss) (tr := tr) n j
    obtain ⟨t', ht'⟩ := bfs_pre ss tr (n + j)
    exact ⟨t ++ t', by rw [← Nat.add_assoc, ht', ht, List.append_assoc]⟩
theorem bfs_same {ss : List (List Wd)} {tr : Bool} {N M : Nat} (hN : (bfs ss tr N).length ≤ N) (hM : (bfs ss tr M).length ≤ M) : bfs ss tr N = bfs ss tr M := by
  have h1 := bfs_stable hN M
  have h2 := bfs_stable hM N
  rw [Nat.add_comm] at h2
  exact h1.symm.trans h2
theorem bfs_sub {ss : List (List Wd)} {tr : Bool} {N n : Nat} (hN : (bfs ss tr N).length ≤ N) : ∃ t, bfs ss tr N = bfs ss tr n ++ t := by
  rcases Nat.le_total n N with h | h
  · obtain ⟨t, ht⟩ := bfs_mono (ss := ss) (tr := tr) n (N - n)
    rw [show n + (N - n) = N by omega] at ht
    exact ⟨t, ht⟩
  · have := bfs_stable hN (n - N)
    rw [show N + (n - N) = n by omega] at this
    exact ⟨[], by rw [this, List.append_nil]⟩
/-- the begins of script a among its first n words -/
def bg1 (a : Nat) (sc : List Wd) : Nat → List P2
  | 0 => []
  | n + 1 => bg1 a sc n ++ (if sc[n]? = some .beg then [(a, n)] else [])
def bgs (ss : List (List Wd)) : Nat → List P2
  | 0 => []
  | n + 1 => bgs ss n ++ (match ss[n]? with | some sc => bg1 n sc sc.length | none => [])
theorem bg1_mem {a : Nat} {sc : List Wd} {p : P2} : ∀ {n : Nat}, p ∈ bg1 a sc n → p.1 = a ∧ p.2 < n ∧ sc[p.2]? = some .beg
  | 0, h => nomatch h
  | n + 1, h => by
    rcases List.mem_append.mp h with h | h
    · obtain ⟨h1, h2, h3⟩ := bg1_mem h
      exact ⟨h1, by omega, h3⟩
    · by_cases hb : sc[n]? = some .beg
      · rw [if_pos hb] at h
        rw [List.mem_singleton.mp h]
        exact ⟨rfl, Nat.lt_succ_self _, hb⟩
      · rw [if_neg hb] at h
        cases h
theorem bgs_mem {ss : List (List Wd)} {p : P2} : ∀ {n : Nat}, p ∈ bgs ss n → p.1 < n ∧ ∃ sc, ss[p.1]? = some sc ∧ sc[p.2]? = some .beg
  | 0, h => nomatch h
  | n + 1, h => by
    rcases List.mem_append.mp h with h | h
    · obtain ⟨h1, h2⟩ := bgs_mem h
      exact ⟨by omega, h2⟩
    · cases e : ss[n]? with
      | none =>
        rw [e] at h
        cases h
      | some sc =>
        rw [e] at h
        obtain ⟨h1, h2, h3⟩ := bg1_mem h
        exact ⟨by omega, sc, by rw [h1]; exact e, h3⟩
theorem bg1_sorted (a : Nat) (sc : List Wd) : ∀ n, (bg1 a sc n).Pairwise pLt
  | 0 => .nil
  | n + 1 => by
    refine List.pairwise_append.mpr ⟨bg1_sorted a sc n, ?_, fun x hx y hy => ?_⟩
    · split
      · exact List.pairwise_singleton _ _
      · exact .nil
    · obtain ⟨h1, h2, _⟩ := bg1_mem hx
      split at hy
      · rw [List.mem_singleton.mp hy]
        exact .inr ⟨h1, h2⟩
      · cases hy
theorem bgs_sorted (ss : List (List Wd)) : ∀ n, (bgs ss n).Pairwise pLt
  | 0 => .nil
  | n + 1 => by
    refine List.pairwise_append.mpr ⟨bgs_sorted ss n, ?_, fun x hx y hy => ?_⟩
    · split
      · exact bg1_sorted _ _ _
      · exact .nil
    · obtain ⟨h1, _⟩ := bgs_mem hx
      split at hy
      · obtain ⟨h2, _⟩ := bg1_mem hy
        exact .inl (by omega)
      · cases hy
def cnt (sc : List Wd) : Nat := sc.countP fun v => decide (v = .beg)
theorem bg1_len (a : Nat) (sc : List Wd) : ∀ n, (bg1 a sc n).length = cnt (sc.take n)
  | 0 => by
    rw [List.take_zero]
    rfl
  | n + 1 => by
    show (bg1 a sc n ++ _).length = _
    rw [List.length_append, bg1_len a sc n]
    cases e : sc[n]? with
    | none =>
      have := List.getElem?_eq_none_iff.mp e
      rw [List.take_of_length_le (show sc.length ≤ n + 1 by omega), List.take_of_length_le this, if_neg (by simp)]
      rfl
    | some v =>
      rw [take_succ' e]
      unfold cnt
      rw [List.countP_append, List.countP_cons, List.countP_nil]
      by_cases hv : v = .beg
      · subst hv
        rw [if_pos rfl, if_pos (by decide)]
        rfl
      · rw [if_neg (fun z => hv (Option.some.inj z)), if_neg (by simpa using hv)]
        rfl
theorem bgs_len (ss : List (List Wd)) : ∀ n, (bgs ss n).length = ((ss.take n).map cnt).sum
  | 0 => by
    rw [List.take_zero]
    rfl
  | n + 1 => by
    show (bgs ss n ++ _).length = _
    rw [List.length_append, bgs_len ss n]
    cases e : ss[n]? with
    | none =>
      have := List.getElem?_eq_none_iff.mp e
      rw [List.take_of_length_le (show ss.length ≤ n + 1 by omega), List.take_of_length_le this]
      rfl
    | some sc =>
      rw [take_succ' e, List.map_append, List.sum_append_nat]
      dsimp only
      rw [bg1_len, List.take_length]
      show _ = _ + (cnt sc + 0)
      omega
theorem bg1_le (a : Nat) (sc : List Wd) (n : Nat) : (bg1 a sc n).length ≤ sc.length := by
  rw [bg1_len]
  exact Nat.le_trans List.countP_le_length (by rw [List.length_take]; omega)
abbrev bgA (ss : List (List Wd)) : List P2 := bgs ss ss.length
/-- scripts with immediate at these places -/
def wi1 (a : Nat) (sc : List Wd) (s : List P2) : List Wd := sc.mapIdx fun k v => if (a, k) ∈ s then .imm else v
def wi (ss : List (List Wd)) (s : List P2) : List (List Wd) := ss.mapIdx fun a sc => wi1 a sc s
theorem wi1_get {a : Nat} {sc : List Wd} {s : List P2} {k : Nat} : (wi1 a sc s)[k]? = (sc[k]?).map fun v => if (a, k) ∈ s then .imm else v := List.getElem?_mapIdx
theorem wi_get {ss : List (List Wd)} {s : List P2} {a : Nat} : (wi ss s)[a]? = (ss[a]?).map fun sc => wi1 a sc s := List.getElem?_mapIdx
theorem wi1_len (a : Nat) (sc : List Wd) (s : List P2) : (wi1 a sc s).length = sc.length := List.length_mapIdx
theorem wi_len (ss : List (List Wd)) (s : List P2) : (wi ss s).length = ss.length := List.length_mapIdx
theorem wi1_flg {a : Nat} {sc : List Wd} {s : List P2} (h : ∀ k, (a, k) ∈ s → sc[k]? = some .beg) : ∀ n, flg (wi1 a sc s) n = flg sc n
  | 0 => rfl
  | n + 1 => by
    have ih := wi1_flg h n
    show (match (wi1 a sc s)[n]? with | some v => (opB v (flg (wi1 a sc s) n).1, rdB v (flg (wi1 a sc s) n).2) | none => flg (wi1 a sc s) n) = (match sc[n]? with | some v => (opB v (flg sc n).1, rdB v (flg sc n).2) | none => flg sc n)
    rw [ih, wi1_get]
    by_cases hm : (a, n) ∈ s
    · rw [h n hm]
      simp only [Option.map_some, if_pos hm]
      rfl
    · cases sc[n]? with
      | none => rfl
      | some v => simp only [Option.map_some, if_neg hm]
theorem wi1_ok {a : Nat} {sc : List Wd} {s : List P2} (ok : okScr sc) (h : ∀ k, (a, k) ∈ s → sc[k]? = some .beg) : okScr (wi1 a sc s) := by
  refine ⟨by rw [wi1_len]; exact ok.1, fun n v e => ?_⟩
  rw [wi1_flg h]
  rw [wi1_get] at e
  obtain ⟨u, hu, rfl⟩ := Option.map_eq_some_iff.mp e
  have q := ok.2 n u hu
  by_cases hm : (a, n) ∈ s
  · rw [h n hm] at hu
    cases hu
    rw [if_pos hm]
    exact q
  · rw [if_neg hm]
    exact q
theorem wi_ok {ss : List (List Wd)} {s : List P2} (ok : Ok4 ss) (hs : s.Sublist (bgA ss)) : Ok4 (wi ss s) := by
  refine ⟨by rw [wi_len]; exact ok.l1, by rw [wi_len]; exact ok.l4, fun sc hsc => ?_⟩
  obtain ⟨a, ha, e⟩ := List.getElem_of_mem hsc
  have e2 : (wi ss s)[a]? = some sc := by rw [List.getElem?_eq_getElem ha, e]
  rw [wi_get] at e2
  obtain ⟨sc', h', rfl⟩ := Option.map_eq_some_iff.mp e2
  refine wi1_ok (ok.ok sc' (List.mem_of_getElem? h')) fun k hk => ?_
  obtain ⟨_, sc2, q1, q2⟩ := bgs_mem (hs.subset hk)
  rw [h'] at q1
  cases q1
  exact q2
/-- never stuck -/
def calmB (ss : List (List Wd)) : Bool := (bfs ss true (bnd ss)).all fun e => !stk ss e.s
theorem calm_is {ss : List (List Wd)} {N : Nat} (ok : Ok4 ss) (hN : (bfs ss true N).length ≤ N) : calmB ss = (bfs ss true N).all fun e => !stk ss e.s := by
  unfold calmB
  rw [bfs_same (bfs_inv (tr := true) ok.ok (bnd ss)).len hN]
theorem calm_never {ss : List (List Wd)} {N : Nat} (ok : Ok4 ss) (hN : (bfs ss true N).length ≤ N) (h : ∀ e ∈ bfs ss true N, stk ss e.s = false) : calmB ss = true := by
  rw [calm_is ok hN, List.all_eq_true]
  intro e he
  rw [h e he]
  rfl
theorem calm_order {ss : List (List Wd)} {n : Nat} {e : Nd} (ok : Ok4 ss) (he : (bfs ss true n)[n]? = some e) (h : stk ss e.s = true) : calmB ss = false := by
  have hN := (bfs_inv (tr := true) ok.ok (bnd ss)).len
  obtain ⟨t, ht⟩ := bfs_sub (n := n) hN
  unfold calmB
  rw [List.all_eq_false]
  refine ⟨e, ?_, by rw [h]; decide⟩
  rw [ht]
  exact List.mem_append_left _ (List.mem_of_getElem? he)
/-- the calmed scripts, if there are -/
def cmd (ss : List (List Wd)) : Option (List (List Wd)) := ((allC (bgA ss)).find? fun s => calmB (wi ss s)).map (wi ss)
theorem cmd_ok {ss ss' : List (List Wd)} (ok : Ok4 ss) (h : cmd ss = some ss') : Ok4 ss' ∧ calmB ss' = true := by
  obtain ⟨s, hs, rfl⟩ := Option.map_eq_some_iff.mp h
  exact ⟨wi_ok ok (allC_mem.mp (List.mem_of_find?_eq_some hs)), List.find?_some (p := fun s => calmB (wi ss s)) hs⟩
end C83

set_option Elab.async false
set_option maxRecDepth 100000
set_option maxHeartbeats 4000000
set_option linter.all false
namespace C83
open PySem L2 My M78
open M83
abbrev sCh : Stmt := top 26
abbrev nCh : List Str := ["pairs", "many", "found", "at", "pair", "rest"]
theorem scCh : FnScope nCh ["pairs", "many"] (defScope sCh) := ⟨rfl, rfl, rfl, by decide +kernel, rfl, by decide +kernel, by decide +kernel⟩

theorem paired_snoc {α β : Type} {R : α → β → Prop} {a : α} {b : β} : ∀ {xs : List α} {ys : List β}, Paired R xs ys → R a b → Paired R (xs ++ [a]) (ys ++ [b])
  | _, _, .nil, h => .cons h .nil
  | _, _, .cons q r, h => .cons q (paired_snoc r h)
theorem paired_app {α β : Type} {R : α → β → Prop} : ∀ {xs us : List α} {ys vs : List β}, Paired R xs ys → Paired R us vs → Paired R (xs ++ us) (ys ++ vs)
  | _, _, _, _, .nil, h => h
  | _, _, _, _, .cons q r, h => .cons q (paired_app r h)
theorem paired_imp {α β : Type} {R S : α → β → Prop} (i : ∀ a b, R a b → S a b) : ∀ {xs : List α} {ys : List β}, Paired R xs ys → Paired S xs ys
  | _, _, .nil => .nil
  | _, _, .cons q r => .cons (i _ _ q) (paired_imp i r)
theorem paired_fst {α β : Type} {R : α → β → Prop} : ∀ {xs : List α} {ys : List β} {i : Nat} {x : α}, Paired R xs ys → xs[i]? = some x → ∃ y, ys[i]? = some y ∧ R x y
  | _, _, _, _, .nil, e => by simp at e
  | _, _, 0, _, .cons h _, e => by
    simp at e
    subst e
    exact ⟨_, rfl, h⟩
  | _, _, i + 1, x, .cons _ q, e => by
    obtain ⟨y, h1, h2⟩ := paired_fst (i := i) (x := x) q (by simpa using e)
    exact ⟨y, by simpa using h1, h2⟩
/-- a choice: a list of pairs -/
def CR (H : Hp) (s : List P2) (v : V) : Prop := ∃ a us, v = .ref a ∧ H a = some (.lst us) ∧ TpAll H us (s.map pD)
theorem CR.same {H H' : Hp} {s : List P2} {v : V} (h : CR H s v) (q : Same H H') : CR H' s v := by
  obtain ⟨a, us, e, h1, h2⟩ := h
  exact ⟨a, us, e, q _ _ h1, h2.mono (.same q)⟩
/-- the same but for the list at F -/
def ButL (F : Addr) (H H' : Hp) : Prop := ∀ b o, H b = some o → b ≠ F → H' b = some o
theorem CR.but {H H' : Hp} {s : List P2} {v : V} {F : Addr} (h : CR H s v) (n : v ≠ .ref F) (hF : NoT H F) (q : But F H H') : CR H' s v := by
  obtain ⟨a, us, e, h1, h2⟩ := h
  subst e
  exact ⟨a, us, rfl, q _ _ h1 fun z => n (by rw [z]), h2.mono fun b ys eb => q _ _ eb fun z => hF _ (z ▸ eb)⟩
theorem paired_but {H H' : Hp} {F : Addr} (hF : NoT H F) (q : But F H H') : ∀ {cs : List (List P2)} {vs : List V}, Paired (CR H) cs vs → (∀ v ∈ vs, v ≠ .ref F) → Paired (CR H') cs vs
  | _, _, .nil, _ => .nil
  | _, _, .cons h r, n => .cons (h.but (n _ (List.mem_cons_self ..)) hF q) (paired_but hF q r fun v hv => n v (List.mem_cons_of_mem _ hv))
theorem cut_from {us : List V} {i : Nat} : cutV us (some ((i : Int) + 1)) none = us.drop (i + 1) := by
  unfold cutV
  rw [show ((i : Int) + 1) = ((i + 1 : Nat) : Int) by omega, HT.sIx_nat, HT.sIx_none]
  rw [List.take_of_length_le (by rw [List.length_drop]; exact Nat.le_refl _)]
  rcases Nat.le_total (i + 1) us.length with h | h
  · rw [Nat.min_eq_left h]
  · rw [Nat.min_eq_right h, List.drop_length, List.drop_eq_nil_of_le h]
theorem _root_.My.TpAll.drop {H : Hp} : ∀ {vs : List V} {ds : List PyData} (n : Nat), TpAll H vs ds → TpAll H (vs.drop n) (ds.drop n)
  | _, _, 0, q => q
  | _, _, _ + 1, .nil => .nil
  | _, _, n + 1, .cons h q => My.TpAll.drop n q
section
variable {P : Program} {w : World} {K : PySem.W.Frag} {mg : Str → Option Value} {base : Heap}

def spCh (n : Nat) : Sp := fun vs H Q _ => ∃ (a : Addr) (us : List V) (xs : List P2), vs = [.ref a, .int (n : Int)] ∧ H a = some (.lst us) ∧ TpAll H us (xs.map pD) ∧ xs.length ≤ 6 ∧
  ∀ (L : Addr) (vs : List V) (H' : Hp), Same H H' → H L = none → H' L = some (.lst vs) → Paired (CR H') (chs xs n) vs → Q (.ref L) H'
theorem ok_ch {f : Addr} {fd : FuncData} (F' : Fun K "choices" "choices" sCh f fd) (b' : Binds K fd ["pairs", "many"] []) (g' : mg "choices" = some (.ref f)) (T : Tx mg) : ∀ n, FnOk P w K mg base CX0 (n + 1) f fd ["pairs", "many"] (spCh n) := by
  intro n
  induction n with
  | zero =>
    refine F'.ok scCh (fun vs H Q E h => ?_) (fun cdv A outer s H vs Q E hr h => ?_)
    · obtain ⟨a, us, xs, rfl, _⟩ := h
      rfl
    · obtain ⟨a, us, xs, rfl, hL, tp, hl, k⟩ := h
      have nd := scCh.nd
      refine ⟨_, (pss_cons (ps_if (pt_cmpR op_eq (pv 1) pe_int (nomark _))
        (pss_one (ps_ret (pe_lst (pa_cons (pe_lst pa_nil) pa_nil))))
        pss_nil) pss_never), ?_⟩
      refine ⟨_, rfl, rfl, _, rfl, ?_⟩
      rw [decide_eq_true (show V.int ((0 : Nat) : Int) = V.int 0 from rfl)]
      refine iteT ?_
      refine ⟨(by show 0 ≤ sizeLine; decide), fun N1 nN1 => ?_⟩
      generalize hN1 : upd H N1 _ = H1
      have sN1 : Same H H1 := hN1 ▸ Same.new nN1
      have eN1 : H1 N1 = some (.lst []) := hN1 ▸ upd_same
      clear hN1
      refine ⟨(by show 1 ≤ sizeLine; decide), fun N2 nN2 => ?_⟩
      generalize hN2 : upd H1 N2 _ = H2
      have sN2 : Same H1 H2 := hN2 ▸ Same.new nN2
      have eN2 : H2 N2 = some (.lst [.ref N1]) := hN2 ▸ upd_same
      clear hN2
      have e : chs xs 0 = [[]] := by cases xs <;> rfl
      refine k N2 _ H2 (Same.tr sN1 sN2) (Same.free sN1 nN2) eN2 ?_
      rw [e]
      exact .cons ⟨N1, [], rfl, sN2 _ _ eN1, .nil⟩ .nil
  | succ m ih =>
    refine F'.ok scCh (fun vs H Q E h => ?_) (fun cdv A outer s H vs Q E hr h => ?_)
    · obtain ⟨a, us, xs, rfl, _⟩ := h
      rfl
    · obtain ⟨a, us, xs, rfl, hL, tp, hl, k⟩ := h
      have nd := scCh.nd
      have PCh : Pr P w K mg base (m + 1) "choices" ["pairs", "many"] (spCh m) := ⟨f, fd, ih, g', F'.kp, b'⟩
      have lus : us.length = xs.length := by
        have := tp.length
        rw [List.length_map] at this
        exact this
      refine ⟨_, (pss_cons (ps_if (pt_cmpR op_eq (pv 1) pe_int (nomark _))
        (pss_one (ps_ret (pe_lst (pa_cons (pe_lst pa_nil) pa_nil))))
        pss_nil)
      (pss_cons (ps_asg (pe_lst pa_nil) (pg_name (i := 2) nd rfl (Or.inl rfl)))
      (pss_cons (ps_for PassesOwn.never rfl (pi_enum (by rfl) T.enumerate (pa_cons (pv 0) pa_nil)) (pg_tup rfl (pgs_cons (pg_name (i := 3) nd rfl (Or.inl rfl)) (pgs_cons (pg_name (i := 4) nd rfl (Or.inr rfl)) pgs_nil)))
        (pss_one (ps_expr (pe_bm PySem.F.plainAttrs_list PySem.F.slot_list_extend PySem.F.type_list_extend mt_extend (pv 2) (pa_cons (pe_lc (own := [("rest", 5)]) (g := gName 5) (tt := tYes) (te := tOp rCat (tLst (tCons (tVar 4) tNil)) (tVar 5)) (by rfl) nd (pi_list (pe_callP PCh hr (by rfl) (pa_cons (pe_slice sl_list (pv 0) (po_some (pe_op op_add (pv 3) pe_int)) po_none) (pa_cons (pe_op op_sub (pv 1) pe_int) pa_nil))))
  (blkOk_by (own := [("rest", 5)]) (N := nCh) (sc := defScope sCh) (by decide +kernel))
  (fun _ _ _ _ _ => pg_name (i := 5) nd rfl (Or.inl rfl) (Or.inr rfl)) (fun _ _ _ _ _ => pts_nil)
  (fun _ _ _ _ _ => (pe_op op_cat (pe_lst (pa_cons (pv 4) pa_nil)) (pv 5)))) pa_nil)))))
      (pss_one (ps_ret (pv 2)))))), ?_⟩
      refine ⟨_, rfl, rfl, _, rfl, ?_⟩
      rw [decide_eq_false (show ¬ V.int ((m + 1 : Nat) : Int) = V.int 0 from fun z => by
        have := V.int.inj z
        omega)]
      refine iteF ?_
      refine ⟨(by show 0 ≤ sizeLine; decide), fun F nF => ?_⟩
      generalize hF : upd H F _ = H1
      have sF : Same H H1 := hF ▸ Same.new nF
      have eF : H1 F = some (.lst []) := hF ▸ upd_same
      clear hF
      have hL1 := sF _ _ hL
      refine ⟨_, rfl, a, us, rfl, SqL.of hL1, ?_⟩
      refine for_it (walk_enum (K := K) (a := a) (xs := us)) (fun i σ H2 => ∃ (o3 o4 o5 : Option V) (vs : List V) (cs : List (List P2)), σ = [some (.ref a), some (.int ((m + 1 : Nat) : Int)), some (.ref F), o3, o4, o5] ∧ Same H H2 ∧ H2 F = some (.lst vs) ∧ Paired (CR H2) cs vs ∧ (∀ v ∈ vs, v ≠ .ref F) ∧ cs ++ chs (xs.drop i) (m + 1) = chs xs (m + 1)) ?_ ?_ ?_ ?_
      · exact ⟨_, _, _, [], [], rfl, sF, eF, .nil, (fun _ h => nomatch h), rfl⟩
      · rintro i σ H2 _ ⟨_, _, _, _, _, _, s2, _⟩
        exact SqL.of (s2 _ _ hL)
      · rintro i v σ H2 H3 hi ⟨o3, o4, o5, vs, cs, rfl, s2, hF2, pr2, nF2, hcs⟩ ⟨Tp, x, y, rfl, nT, rfl, hx, hy⟩
        cases hx
        obtain ⟨d, hd, ty⟩ := tp.get hy
        rw [List.getElem?_map] at hd
        obtain ⟨p, hp, rfl⟩ := Option.map_eq_some_iff.mp hd
        generalize hH3 : upd H2 Tp _ = H3
        have s23 : Same H2 H3 := hH3 ▸ Same.new nT
        have eT : H3 Tp = some (.tup [.int (i : Int), y]) := hH3 ▸ upd_same
        clear hH3
        refine ⟨_, _, rfl, SqT.of eT, rfl, _, _, rfl, _, _, rfl, rfl, ?_⟩
        have s3 := Same.tr s2 s23
        have hF3 := s23 _ _ hF2
        refine ⟨_, rfl, .inl ⟨rfl, _, SqL.of hF3⟩, ?_⟩
        -- choices(pairs[at + 1:], many - 1)
        refine ⟨_, rfl, _, rfl, _, _, rfl, rfl, _, rfl, a, us, rfl, SqL.of (s3 _ _ hL), fun S nS => ?_⟩
        rw [cut_from]
        generalize hS : upd H3 S _ = H4
        have s34 : Same H3 H4 := hS ▸ Same.new nS
        have eS : H4 S = some (.lst (us.drop (i + 1))) := hS ▸ upd_same
        clear hS
        refine ⟨_, rfl, _, _, rfl, rfl, ?_⟩
        have s4 := Same.tr s3 s34
        refine ⟨S, us.drop (i + 1), xs.drop (i + 1), by
          show [V.ref S, V.int (((m + 1 : Nat) : Int) - 1)] = _
          rw [show ((m + 1 : Nat) : Int) - 1 = (m : Int) by omega], eS, ?_, by rw [List.length_drop]; omega, fun L ws H5 s5 nL5 hL5 pr5 => ?_⟩
        · rw [List.map_drop]
          exact (tp.mono (.same s4)).drop (i + 1)
        refine ⟨L, rfl, ⟨_, SqL.of hL5⟩, fun Dl nDl => ?_⟩
        have s35 : Same H3 H5 := Same.tr s34 s5
        have hF5 := s35 _ _ hF3
        have nDF : Dl ≠ F := Ne.symm (ne_of_none hF5 nDl)
        have lws : (chs (xs.drop (i + 1)) m).length = ws.length := paired_len pr5
        have lc := chs_len (xs.drop (i + 1)) m
        have lp : 2 ^ (xs.drop (i + 1)).length ≤ 2 ^ 6 := Nat.pow_le_pow_right (by decide) (by rw [List.length_drop]; omega)
        refine lc_list (K := K) (a := L) (xs := ws) (fun j H6 => Same H5 H6 ∧ ∃ zs, H6 Dl = some (.lst zs) ∧ Paired (CR H6) (((chs (xs.drop (i + 1)) m).take j).map (p :: ·)) zs ∧ (∀ v ∈ zs, v ≠ .ref F ∧ v ≠ .ref Dl)) ?_ ?_ ?_ ?_
        · exact ⟨same_new nDl, [], upd_same, .nil, fun _ h => nomatch h⟩
        · exact fun j H6 _ q => SqL.of (q.1 _ _ hL5)
        · rintro j u H6 hu ⟨s6, zs, hz6, pz6, nz6⟩
          obtain ⟨c, hc, a5, us5, rfl, hu5, tu5⟩ := paired_get pr5 hu
          have hu6 := s6 _ _ hu5
          refine ⟨rfl, ?_⟩
          refine ⟨_, rfl, (by show 1 ≤ sizeLine; decide), fun N1 nN1 => ?_⟩
          generalize hN1 : upd H6 N1 _ = H7
          have s7 : Same H6 H7 := hN1 ▸ Same.new nN1
          have e7 : H7 N1 = some (.lst [y]) := hN1 ▸ upd_same
          clear hN1
          have lu : us5.length = c.length := by
            have := tu5.length
            rw [List.length_map] at this
            exact this
          have lcm : c.length = m := (chs_mem.mp (List.mem_of_getElem? hc)).2
          have lcl : c.length ≤ 6 := by
            have := (chs_mem.mp (List.mem_of_getElem? hc)).1.length_le
            rw [List.length_drop] at this
            omega
          refine ⟨_, rfl, N1, a5, [y], us5, rfl, rfl, e7, s7 _ _ hu6, ?_, fun N2 nN2 => ?_⟩
          · refine Nat.le_of_lt (small6 ?_)
            show 1 + us5.length < _
            omega
          generalize hN2 : upd H7 N2 _ = H8
          have s8 : Same H7 H8 := hN2 ▸ Same.new nN2
          have e8 : H8 N2 = some (.lst ([y] ++ us5)) := hN2 ▸ upd_same
          clear hN2
          have s68 := Same.tr s7 s8
          have s58 := Same.tr s6 s68
          have hz8 := s68 _ _ hz6
          have nN2F : V.ref N2 ≠ V.ref F := fun z => by
            have z := V.ref.inj z
            rw [z, s7 _ _ (s6 _ _ hF5)] at nN2
            cases nN2
          have nN2D : N2 ≠ Dl := fun z => by
            rw [z, s7 _ _ hz6] at nN2
            cases nN2
          refine ⟨zs, hz8, ?_, ?_, zs ++ [.ref N2], upd_same, ?_, ?_⟩
          · have := paired_len pz6
            rw [List.length_map, List.length_take] at this
            exact small6 (by omega)
          · intro b u e
            rw [upd_ne (ne_of_none e nDl)]
            exact s58 _ _ e
          · rw [take_succ' hc, List.map_append]
            have bt : But Dl H8 (upd H8 Dl (.lst (zs ++ [.ref N2]))) := (But.refl Dl H8).upd
            have nt : NoT H8 Dl := .lst hz8
            refine paired_snoc (paired_but nt bt (paired_imp (fun s v q => q.same s68) pz6) fun v hv => (nz6 v hv).2) ?_
            refine ⟨N2, y :: us5, rfl, bt _ _ e8 nN2D, ?_⟩
            have t8 : TpAll H8 (y :: us5) ((p :: c).map pD) := .cons (ty.mono (.same (Same.tr s4 (Same.tr s5 s58)))) (tu5.mono (.same s58))
            exact t8.mono fun b ys eb => bt _ _ eb fun z => nt _ (z ▸ eb)
          · intro v hv
            rcases List.mem_append.mp hv with hv | hv
            · exact nz6 v hv
            · rw [List.mem_singleton.mp hv]
              exact ⟨nN2F, fun z => nN2D (V.ref.inj z)⟩
        · rintro H6 ⟨s6, zs, hz6, pz6, nz6⟩
          rw [← lws, List.take_length] at pz6
          have lz := paired_len pz6
          rw [List.length_map] at lz
          have lcs := paired_len pr2
          have lall := congrArg List.length hcs
          have lall2 := chs_len xs (m + 1)
          have lp2 : 2 ^ xs.length ≤ 2 ^ 6 := Nat.pow_le_pow_right (by decide) hl
          rw [List.length_append] at lall
          have s36 := Same.tr s35 s6
          have hF6 := s36 _ _ hF3
          refine ⟨F, Dl, vs, zs, rfl, rfl, hF6, hz6, Nat.le_of_lt (small6 (by omega)), ?_⟩
          have bt : But F H6 (upd H6 F (.lst (vs ++ zs))) := (But.refl F H6).upd
          have nt : NoT H6 F := .lst hF6
          refine ⟨_, _, _, vs ++ zs, cs ++ (chs (xs.drop (i + 1)) m).map (p :: ·), rfl, ?_, upd_same, ?_, ?_, ?_⟩
          · intro b u e
            rw [upd_ne (ne_of_none e nF)]
            exact s36 _ _ (s3 _ _ e)
          · exact paired_app (paired_but nt bt (paired_imp (fun s v q => q.same (Same.tr s23 s36)) pr2) nF2) (paired_but nt bt pz6 fun v hv => (nz6 v hv).1)
          · intro v hv
            rcases List.mem_append.mp hv with hv | hv
            · exact nF2 v hv
            · exact (nz6 v hv).1
          · rw [List.append_assoc, ← chs_drop hp]
            exact hcs
      · rintro σ H2 ⟨o3, o4, o5, vs, cs, rfl, s2, hF2, pr2, nF2, hcs⟩
        refine ⟨_, rfl, k F vs H2 s2 nF hF2 ?_⟩
        have : chs (xs.drop us.length) (m + 1) = [] := by
          rw [List.drop_eq_nil_of_le (by omega)]
          rfl
        rw [this, List.append_nil] at hcs
        rw [← hcs]
        exact pr2
/-- choices of any size up to 6 -/
def spChA : Sp := fun vs H Q E => ∃ n, n ≤ 6 ∧ spCh n vs H Q E
theorem pr_ch (D' : Df K mg "choices" sCh ["pairs", "many"]) (T : Tx mg) : Pr P w K mg base 7 "choices" ["pairs", "many"] spChA := by
  obtain ⟨f, fd, F, b, g⟩ := D'
  have ok := ok_ch (P := P) (w := w) (base := base) F b g T
  refine ⟨f, fd, ⟨fun vs H Q E h => ?_, fun A outer s H args us vs Q E hr he hb hv hs => ?_⟩, g, F.kp, b⟩
  · obtain ⟨n, _, h⟩ := h
    exact (ok n).len vs H Q E h
  · obtain ⟨n, hn, h⟩ := hs
    exact ((ok n).mono (show n + 1 ≤ 7 by omega)).run A outer s H args us vs Q E hr he hb hv h
end
end C83

set_option Elab.async false
set_option maxRecDepth 100000
set_option maxHeartbeats 4000000
set_option linter.all false
/-! x in t of a tuple of data; tuples whose own object is known (locked), t.count(x) of such; the lock given back. -/
namespace My
open PySem PySem.Spec PyProof.Rows L2
section
variable {X : Cx}
def rInDT (K : PySem.W.Frag) : R2 := fun x y H Q => ∃ d ds, Dp K H x d ∧ Dp K H y (.tuple ds) ∧ SeqAt.shaped d = true ∧ SeqAt.shaped (.tuple ds) = true ∧ Q (.bl (ds.any fun z => PyData.eqv z d)) H
theorem op_inDT (hu : X.A.units + 65 < cLine) : OpR X (compareOp .In) (rInDT X.K) := by
  intro pins s σ H x y v u Q I rx ry h
  obtain ⟨d, ds, hd, he, sd, se, q⟩ := h
  obtain ⟨as, r1⟩ := Dp.reads I d x v hd rx
  obtain ⟨bs, r2⟩ := Dp.reads I (.tuple ds) y u he ry
  exact SeqAt.in_tuple_reads r2 r1 (SeqAt.canLay_of_shaped se) (SeqAt.canLay_of_shaped sd) (room_in_shaped sd hu) ⟨.bl _, H, I, rfl, q⟩
/-- a tuple whose own object has no dict -/
def FzT (H : Hp) (a : Addr) (xs : List V) : Prop := ∃ o : Obj, H a = some (.frz o (.tup xs)) ∧ o.dict = none
theorem FzT.sq {K : PySem.W.Frag} {H : Hp} {a : Addr} {xs : List V} (h : FzT H a xs) : SqT K H a xs := .inl (.inr ⟨h.choose, h.choose_spec.1⟩)
theorem FzT.but {H H' : Hp} {a p : Addr} {xs : List V} (h : FzT H a xs) (b : But p H H') (n : a ≠ p) : FzT H' a xs := let ⟨o, e, d⟩ := h; ⟨o, b _ _ e n, d⟩
theorem FzT.same {H H' : Hp} {a : Addr} {xs : List V} (h : FzT H a xs) (s : Same H H') : FzT H' a xs := let ⟨o, e, d⟩ := h; ⟨o, s _ _ e, d⟩
def rTupF (K : PySem.W.Frag) : List V → Hp → VK → Prop := fun xs H Q => ∃ p ys, xs = [.ref p] ∧ SqL K H p ys ∧ ∀ l o, H l = none → o.dict = none → Q (.ref l) (upd H l (.frz o (.tup ys)))
theorem call_tupleF : CallR X (.type "tuple") (rTupF X.K) := by
  intro pins s σ H xs us Q I r h
  obtain ⟨p, ys, rfl, hq, q⟩ := h
  obtain ⟨u, rfl, rx⟩ := vals1 r
  cases rx
  obtain ⟨its, r', pl, hz⟩ := I.list hq
  have hlen := r'.length
  refine call_tuple_list pl.isList (fun h' kp => ?_) (by simp only [List.size_toArray] <;> omega)
  have I1 : Inv X pins σ H { s with heap := h' } := I.kept (t' := s.toks) kp
  have I2 : Inv X pins σ (upd H h'.objs.size (.frz { cls := .type "tuple", data := .seq its.toArray } (.tup ys))) { s with heap := h'.push { cls := .type "tuple", data := .seq its.toArray } } :=
    I1.laid (t' := s.toks) (fun b o e => Heap.get?_push_of_some _ e) (Nat.le_refl _) (show ObjOk X.prog X.w _ _ _ (.frz _ (.tup ys)) from ⟨Heap.get?_push_size _ rfl, hz, its, r', IsTup.new _ _⟩)
  exact ⟨.ref h'.objs.size, _, I2, rfl, q _ _ (I1.hok.fresh (Nat.le_refl _)) rfl⟩
/-- t.count(y) -/
def rTCnt (K : PySem.W.Frag) : V → List V → Hp → VK → Prop := fun x us H Q => ∃ a xs y d ds, x = .ref a ∧ us = [y] ∧ SqT K H a xs ∧ DpAll K H xs ds ∧ Dp K H y d ∧ PyData.plainAll ds = true ∧ d.plain = true ∧ d.depth = 0 ∧ Q (.int ((ds.countP fun z => PyData.eqv z d : Nat) : Int)) H
theorem mt_tcount (hu : X.A.units + 64 < cLine) : MtR X "tuple.count" (rTCnt X.K) := by
  intro pins s σ H x xs v us Q I rx rxs h
  obtain ⟨a, xs, y, d, ds, rfl, rfl, hq, hall, hy, hp, hpd, hd, q⟩ := h
  cases rx
  obtain ⟨u, rfl, ru⟩ := rxs.one
  obtain ⟨bs, r1⟩ := Dp.reads I d y u hy ru
  obtain ⟨its, rv, pl, hz⟩ := I.tuple hq
  obtain ⟨as, r2⟩ := Dp.readsAll I ds xs its hall rv
  refine SeqAt.count_tuple_data (vs := its.toArray) pl (by simpa using r2) r1 hp hpd (by rw [hd, Nat.min_zero]; omega) ?_
  exact ⟨.int _, H, I.tok _, ⟨_, rfl⟩, q⟩
def tBMF (r : V → List V → Hp → VK → Prop) (to : TE) (t : TA) : TE := fun σ H Q => to σ H fun x H1 => (∃ a xs, x = .ref a ∧ FzT H1 a xs) ∧ t σ H1 fun xs H2 => r x xs H2 Q
variable {o e : Expr} {es : List Expr} {to : TE} {t : TA} {name : Str} {apos cpos : Pos} {T id : String} {r : V → List V → Hp → VK → Prop}
theorem pe_bmF (slot : Slot "tuple" name id) (hty : typeOf (.builtin id) = pure (.type "method_descriptor")) (hm : MtR X id r) (ho : PE X o to) (ha : PA X (e :: es) t)
    (hbase : attributeBase o name X.env (eval o X.env) = eval o X.env := by rfl)
    (hfew : ((backTo cpos (starEach (e :: es) X.env)).all (fun x => !x.1) && (backToKw cpos (keywordEach [] X.env)).all (fun x => x.1.isSome)
      && decide ((e :: es).length + ([] : List Keyword).length + (if ([] : List Keyword).isEmpty then 0 else 1) < 30)) = true := by rfl)
    (hline : (apos.endLine == cpos.line) = true := by rfl) (hs : starEach (e :: es) X.env = (false, eval e X.env) :: starEach es X.env := by rfl) (hplain : (backTo cpos (starEach es X.env)).any (·.1) = false := by rfl) :
    PE X (.Call (.Attribute o name apos) (e :: es) [] cpos) (tBMF r to t) := by
  refine ⟨fun pins s σ H Q I h => ?_⟩
  refine wpAny_Call_method_late hbase hfew hline rfl (thn (ho.run pins s σ H _ I h) fun v s1 ⟨x, H1, I1, r1, ty, q1⟩ => ?_)
  obtain ⟨a, xs, rfl, ob, hob, hdc⟩ := ty
  cases r1
  obtain ⟨e1, _, its, _, _, e2, hcl, _⟩ := I1.hok a _ hob
  rw [e1] at e2
  cases e2
  refine ⟨"tuple", id, PySem.F.plainAttrs_tuple, slot, hty, ⟨ob, e1, hcl⟩, fun b eb => by cases eb; exact ⟨ob, e1, hdc⟩, ?_⟩
  have hA := ha.run cpos pins s1 σ H1 _ I1 q1
  rw [hs] at hA ⊢
  refine Calls.callWith_builtin (by show (false || (backTo cpos (starEach es X.env)).any (·.1)) = false; rw [hplain] <;> rfl) (Calls.evalArgs_plain ?_)
  exact thn hA fun us s2 ⟨vs, H2, I2, r2, q2⟩ => hm pins s2 σ H2 (.ref a) vs (.ref a) us Q I2 (show RelV (.ref a) (.ref a) from rfl) r2 q2
/-! the lock given back -/
def thaw (H : Hp) (d : Addr) : Hp := match H d with
  | some (.frz _ u) => upd H d u
  | _ => H
def thaws (H : Hp) (ds : List Addr) : Hp := ds.foldl thaw H
theorem thaw_ne {H : Hp} {d b : Addr} (n : b ≠ d) : thaw H d b = H b := by
  unfold thaw
  cases h : H d with
  | none => rfl
  | some o => cases o <;> first | rfl | exact upd_ne n
theorem thaws_ne {b : Addr} : ∀ {ds : List Addr} {H : Hp}, b ∉ ds → thaws H ds b = H b
  | [], H, _ => rfl
  | d :: r, H, n => by
    show thaws (thaw H d) r b = H b
    rw [thaws_ne fun z => n (List.mem_cons_of_mem _ z), thaw_ne (fun z : b = d => n (by rw [z]; exact List.mem_cons_self ..))]
theorem thaw_tup {H : Hp} {d b : Addr} {xs : List V} (h : H b = some (.tup xs)) : thaw H d b = some (.tup xs) := by
  by_cases n : b = d
  · subst n
    unfold thaw
    rw [h]
    exact h
  · rw [thaw_ne n, h]
theorem thaws_tup {b : Addr} {xs : List V} : ∀ {ds : List Addr} {H : Hp}, H b = some (.tup xs) → thaws H ds b = some (.tup xs)
  | [], H, h => h
  | d :: r, H, h => thaws_tup (ds := r) (thaw_tup h)
theorem thaws_mem {b : Addr} {o : Obj} {xs : List V} : ∀ {ds : List Addr} {H : Hp}, H b = some (.frz o (.tup xs)) → b ∈ ds → thaws H ds b = some (.tup xs)
  | d :: r, H, h, hb => by
    show thaws (thaw H d) r b = _
    by_cases n : b = d
    · subst n
      refine thaws_tup ?_
      unfold thaw
      rw [h]
      exact upd_same
    · exact thaws_mem (ds := r) (by rw [thaw_ne n]; exact h) ((List.mem_cons.mp hb).resolve_left n)
theorem inv_thaw {pins : List (Addr × Obj)} {σ : L2.St} {H : Hp} {s : Shared} {d : Addr} (I : Inv X pins σ H s) (hn : X.H_0 d = none) : Inv X pins σ (My.thaw H d) s := by
  unfold My.thaw
  cases h : H d with
  | none => exact I
  | some o =>
    cases o with
    | frz ob u => exact I.unlock h fun o' u' e => by rw [hn] at e; cases e
    | _ => exact I
theorem inv_thaws {pins : List (Addr × Obj)} {σ : L2.St} {s : Shared} : ∀ {ds : List Addr} {H : Hp}, Inv X pins σ H s → (∀ d ∈ ds, X.H_0 d = none) → Inv X pins σ (My.thaws H ds) s
  | [], H, I, _ => I
  | d :: r, H, I, hn => inv_thaws (ds := r) (inv_thaw I (hn d (List.mem_cons_self ..))) fun x hx => hn x (List.mem_cons_of_mem _ hx)
/-- behind an expression some locks are given back -/
def tThaw (H0 : Hp) (t : TE) : TE := fun σ H Q => t σ H fun v H1 => ∃ ds : List Addr, (∀ d ∈ ds, H0 d = none) ∧ Q v (thaws H1 ds)
theorem pe_thaw {e : Expr} {t : TE} (h : PE X e t) : PE X e (tThaw X.H_0 t) := by
  refine ⟨fun pins s σ H Q I hw => ?_⟩
  refine thn (h.run pins s σ H _ I hw) fun v s1 ⟨x, H1, I2, r, ds, hn, q⟩ => ?_
  exact ⟨x, _, inv_thaws I2 hn, r, q⟩
end
end My

set_option Elab.async false
set_option maxRecDepth 100000
set_option maxHeartbeats 4000000
set_option linter.all false
namespace C83
open PySem L2 My M78
open M83
abbrev sWi : Stmt := top 27
abbrev nWi : List Str := ["scripts", "pairs", "found", "at", "script", "k", "step"]
theorem scWi : FnScope nWi ["scripts", "pairs"] (defScope sWi) := ⟨rfl, rfl, rfl, by decide +kernel, rfl, by decide +kernel, by decide +kernel⟩
abbrev sRep : Stmt := top 45
abbrev nRep : List Str := ["_law_scripts_here", "_law_pairs", "_law_found", "_law_k", "_law_one_here", "_law_place", "_law_word"]
theorem scRep : FnScope nRep ["_law_scripts_here", "_law_pairs"] (defScope sRep) := ⟨rfl, rfl, rfl, by decide +kernel, rfl, by decide +kernel, by decide +kernel⟩

theorem _root_.L2.Room.units65 {k : Nat} {A : Around} (r : Room k A) : A.units + 65 < cLine := by
  have := r.un
  omega
theorem canLay_pairs : ∀ s : List P2, PyData.canLayAll0 (s.map pD) = true
  | [] => rfl
  | p :: r => by
    show (PyData.canLay0 (pD p) && PyData.canLayAll0 (r.map pD)) = true
    rw [canLay_pairs r]
    rfl
theorem depth_pairs : ∀ s : List P2, PyData.depthAll (s.map pD) ≤ 1
  | [] => Nat.zero_le _
  | p :: r => by
    have h1 := depth_pairs r
    have h2 : PyData.depth (pD p) = 1 := by simp [pD, PyData.depth, PyData.depthAll]
    show max (PyData.depth (pD p)) (PyData.depthAll (r.map pD)) ≤ 1
    omega
theorem shaped_sL (s : List P2) : SeqAt.shaped (.list (s.map pD)) = true := by
  unfold SeqAt.shaped
  rw [Bool.and_eq_true_iff]
  refine ⟨by simpa only [PyData.canLay0] using canLay_pairs s, decide_eq_true ?_⟩
  have := depth_pairs s
  simp only [PyData.depth]
  omega
theorem shaped_sD (s : List P2) : SeqAt.shaped (.tuple (s.map pD)) = true := by
  unfold SeqAt.shaped
  rw [Bool.and_eq_true_iff]
  refine ⟨by simpa only [PyData.canLay0] using canLay_pairs s, decide_eq_true ?_⟩
  have := depth_pairs s
  simp only [PyData.depth]
  omega
theorem shaped_pD (p : P2) : SeqAt.shaped (pD p) = true := by
  unfold SeqAt.shaped
  rw [Bool.and_eq_true_iff]
  refine ⟨rfl, decide_eq_true ?_⟩
  simp [pD, PyData.depth, PyData.depthAll]
theorem any_pD (p : P2) (s : List P2) : ((s.map pD).any fun z => PyData.eqv z (pD p)) = decide (p ∈ s) := by
  rw [Bool.eq_iff_iff, decide_eq_true_iff, List.any_map, List.any_eq_true]
  have e : ∀ q : P2, PyData.eqv (pD q) (pD p) = true ↔ q = p := fun q => by
    simp only [pD, PyData.eqv, PyData.eqvAll, Bool.and_true, Bool.and_eq_true, beq_iff_eq, decide_eq_true_eq]
    constructor
    · rintro ⟨h1, h2⟩
      exact Prod.ext (by omega) (by omega)
    · rintro rfl
      exact ⟨rfl, rfl⟩
  constructor
  · rintro ⟨q, hq, h⟩
    exact (e q).mp h ▸ hq
  · intro h
    exact ⟨p, h, (e p).mpr rfl⟩
theorem tp_words {H : Hp} : ∀ sc : List Wd, TpAll H (wV sc) (scE sc)
  | [] => .nil
  | v :: r => .cons (.str _) (tp_words r)
section
variable {P : Program} {w : World} {K : PySem.W.Frag} {mg : Str → Option Value} {base : Heap}

def spWi : Sp := fun vs H Q _ => ∃ (A B : Addr) (us : List V) (ss : List (List Wd)) (s : List P2), vs = [.ref A, .ref B] ∧ Tp H (.ref A) (scD ss) ∧ H B = some (.lst us) ∧ TpAll H us (s.map pD) ∧ ss.length ≤ 4 ∧ (∀ sc ∈ ss, sc.length ≤ 8) ∧
  ∀ (L : Addr) (vs : List V) (H' : Hp), Same H H' → H L = none → H' L = some (.lst vs) → TpAll H' vs ((wi ss s).map fun sc => .tuple (scE sc)) → Q (.ref L) H'
theorem pr_wi (D' : Df K mg "with_immediate" sWi ["scripts", "pairs"]) (T : Tx mg) (T2 : Ty mg) : Pr P w K mg base 1 "with_immediate" ["scripts", "pairs"] spWi := by
  refine D'.pr scWi (fun vs H Q E h => ?_) (fun f cdv A outer s H vs Q E hr h => ?_)
  · obtain ⟨A, B, us, ss, s, rfl, _⟩ := h
    rfl
  · obtain ⟨A0, B, us, ss, s, rfl, tA, hB, tB, l4, l8, k⟩ := h
    have nd := scWi.nd
    refine ⟨_, (pss_cons (ps_asg (pe_lst pa_nil) (pg_name (i := 2) nd rfl (Or.inl rfl)))
      (pss_cons (ps_for PassesOwn.never rfl (pi_enumT (by rfl) T.enumerate (pa_cons (pv 0) pa_nil)) (pg_tup rfl (pgs_cons (pg_name (i := 3) nd rfl (Or.inr rfl)) (pgs_cons (pg_name (i := 4) nd rfl (Or.inl rfl)) pgs_nil)))
        (pss_one (ps_expr (pe_bm PySem.F.plainAttrs_list PySem.F.slot_list_append PySem.F.type_list_append mt_append (pv 2) (pa_cons (pe_callTy call_tuple_of (by rfl) T2.tuple (by decide +kernel) (pa_cons (pe_lc (own := [("k", 5), ("step", 6)]) (g := gTup K 2 (gCons (gName 5) (gCons (gName 6) gNil))) (tt := tYes) (te := tIf (tTest (tOp (rInD K) (tTup (tCons (tVar 3) (tCons (tVar 5) tNil))) (tVar 1))) (tC (.str "immediate")) (tVar 6)) (by rfl) nd (pi_enumT (by rfl) T.enumerate (pa_cons (pv 4) pa_nil))
  (blkOk_by (own := [("k", 5), ("step", 6)]) (N := nWi) (sc := defScope sWi) (by decide +kernel))
  (fun _ _ _ _ _ => pg_tup rfl (pgs_cons (pg_name (i := 5) nd rfl (Or.inl rfl) (Or.inr rfl)) (pgs_cons (pg_name (i := 6) nd rfl (Or.inl rfl) (Or.inr rfl)) pgs_nil))) (fun _ _ _ _ _ => pts_nil)
  (fun _ _ _ _ _ => (pe_ifExp (pt_cmpR (op_inD hr.units65) (pe_tup (pa_cons (pv 3) (pa_cons (pv 5) pa_nil))) (pv 1) (by rfl)) pe_str (pv 6)))) pa_nil)) pa_nil)))))
      (pss_one (ps_ret (pv 2))))), ?_⟩
    cases tA with
    | @tup _ as _ hA tas =>
    have las : as.length = ss.length := by
      rw [tas.length, List.length_map]
    refine ⟨(by show 0 ≤ sizeLine; decide), fun F nF => ?_⟩
    generalize hF : upd H F _ = H1
    have sF : Same H H1 := hF ▸ Same.new nF
    have eF : H1 F = some (.lst []) := hF ▸ upd_same
    clear hF
    have hA1 := sF _ _ hA
    refine ⟨_, rfl, _, _, rfl, SqT.of hA1, ?_⟩
    refine for_it (walk_enumT (K := K) (a := A0) (xs := as)) (fun i σ H2 => ∃ (o3 o4 o5 o6 : Option V) (vs : List V), σ = [some (.ref A0), some (.ref B), some (.ref F), o3, o4, o5, o6] ∧ Same H H2 ∧ H2 F = some (.lst vs) ∧ TpAll H2 vs (((wi ss s).take i).map fun sc => .tuple (scE sc))) ?_ ?_ ?_ ?_
    · exact ⟨_, _, _, _, [], rfl, sF, eF, .nil⟩
    · rintro i σ H2 _ ⟨_, _, _, _, _, _, s2, _⟩
      exact SqT.of (s2 _ _ hA)
    · rintro i v σ H2 H3 hi ⟨o3, o4, o5, o6, vs, rfl, s2, hF2, tv2⟩ ⟨Tq, x, y, rfl, nT, rfl, hx, hy⟩
      cases hx
      obtain ⟨d, hd, ty⟩ := tas.get hy
      rw [List.getElem?_map] at hd
      obtain ⟨sc, hsc, rfl⟩ := Option.map_eq_some_iff.mp hd
      generalize hH3 : upd H2 Tq _ = H3
      have s23 : Same H2 H3 := hH3 ▸ Same.new nT
      have eT : H3 Tq = some (.tup [.int (i : Int), y]) := hH3 ▸ upd_same
      clear hH3
      refine ⟨_, _, rfl, SqT.of eT, rfl, _, _, rfl, _, _, rfl, rfl, ?_⟩
      have s3 := Same.tr s2 s23
      have hF3 := s23 _ _ hF2
      obtain ⟨S, xs, rfl, hS, txs⟩ := Tp.ref (ty.mono (.same s3))
      have lxs : xs.length = sc.length := by
        rw [txs.length, List.length_map]
      have l8s := l8 sc (List.mem_of_getElem? hsc)
      refine ⟨_, rfl, .inl ⟨rfl, _, SqL.of hF3⟩, ?_⟩
      refine ⟨_, rfl, S, xs, rfl, SqT.of hS, fun Dl nDl => ?_⟩
      refine lc_it (walk_enumT (K := K) (a := S) (xs := xs)) (fun j H4 => Same H3 H4 ∧ H4 Dl = some (.lst ((wV (wi1 i sc s)).take j))) ?_ ?_ ?_ ?_
      · exact ⟨same_new nDl, by rw [List.take_zero]; exact upd_same⟩
      · exact fun j H4 _ q => SqT.of (q.1 _ _ hS)
      · rintro j v H4 H5 hj ⟨s4, hD4⟩ ⟨T2, j', u, rfl, nT2, rfl, ej, eu⟩
        obtain rfl : V.int (j : Nat) = j' := Option.some.inj ej
        generalize hH5 : upd H4 T2 _ = H5
        have s45 : Same H4 H5 := hH5 ▸ Same.new nT2
        have eT2 : H5 T2 = some (.tup [.int (j : Int), u]) := hH5 ▸ upd_same
        clear hH5
        obtain ⟨du, hdu, tu⟩ := txs.get eu
        rw [List.getElem?_map] at hdu
        obtain ⟨wd, hwd, rfl⟩ := Option.map_eq_some_iff.mp hdu
        cases tu
        refine ⟨_, _, rfl, SqT.of eT2, rfl, _, _, rfl, _, _, rfl, rfl, rfl, ?_⟩
        have s5 := Same.tr s4 s45
        refine ⟨_, rfl, _, rfl, (by show 2 ≤ sizeLine; decide), fun N1 nN1 => ?_⟩
        generalize hN1 : upd H5 N1 _ = H6
        have sN1 : Same H5 H6 := hN1 ▸ Same.new nN1
        have eN1 : H6 N1 = some (.tup [.int (i : Int), .int (j : Int)]) := hN1 ▸ upd_same
        clear hN1
        have s35 := Same.tr s5 sN1
        have s05 := Same.tr s3 s35
        have tk : Tp H6 (.ref N1) (pD (i, j)) := .tup eN1 (.cons (.int _) (.cons (.int _) .nil))
        have nF : NoT H6 F := .lst (s35 _ _ hF3)
        refine ⟨_, rfl, pD (i, j), s.map pD, (tk.at nF).dp, Dp.lst (SqL.of (s05 _ _ hB)) ((tB.mono (.same s05)).at nF).dp, shaped_pD _, shaped_sL _, ?_⟩
        rw [any_pD]
        refine ⟨_, rfl, ?_⟩
        have hget : (wV (wi1 i sc s))[j]? = some (.str (wS (if (i, j) ∈ s then .imm else wd))) := by
          unfold wV
          rw [List.getElem?_map, wi1_get, hwd]
          rfl
        have fin : ∀ z : V, z = .str (wS (if (i, j) ∈ s then .imm else wd)) → ∃ acc, H6 Dl = some (.lst acc) ∧ acc.length < sizeLine ∧ Same H3 (upd H6 Dl (.lst (acc ++ [z]))) ∧ upd H6 Dl (.lst (acc ++ [z])) Dl = some (.lst ((wV (wi1 i sc s)).take (j + 1))) := by
          rintro z rfl
          have hD6 := sN1 _ _ (s45 _ _ hD4)
          refine ⟨_, hD6, ?_, fun b o e => ?_, ?_⟩
          · rw [List.length_take]
            exact small6 (by omega)
          · rw [upd_ne (ne_of_none e nDl)]
            exact s35 _ _ e
          · rw [upd_same, take_succ' hget]
        by_cases hm : (i, j) ∈ s
        · rw [decide_eq_true hm]
          refine iteT ?_
          exact fin _ (by rw [if_pos hm]; rfl)
        · rw [decide_eq_false hm]
          refine iteF ?_
          exact ⟨_, rfl, fin _ (by rw [if_neg hm])⟩
      · rintro H4 ⟨s4, hD4⟩
        rw [show xs.length = (wV (wi1 i sc s)).length by unfold wV; rw [List.length_map, wi1_len, lxs], List.take_length] at hD4
        refine ⟨_, _, rfl, .inl ⟨SqL.of hD4, fun N2 nN2 => ?_⟩⟩
        generalize hN2 : upd H4 N2 _ = H5
        have s45 : Same H4 H5 := hN2 ▸ Same.new nN2
        have eN2 : H5 N2 = some (.tup (wV (wi1 i sc s))) := hN2 ▸ upd_same
        clear hN2
        have s35 := Same.tr s4 s45
        have hF5 := s35 _ _ hF3
        have lv := tv2.length
        rw [List.length_map, List.length_take, wi_len] at lv
        refine ⟨F, vs, .ref N2, rfl, rfl, hF5, small6 (by omega), ?_⟩
        have kt : KeepT H5 (upd H5 F (.lst (vs ++ [.ref N2]))) := .lst hF5
        refine ⟨_, _, _, _, vs ++ [.ref N2], rfl, fun b o e => ?_, upd_same, ?_⟩
        · rw [upd_ne (ne_of_none e nF)]
          exact s35 _ _ (s3 _ _ e)
        · have hw : (wi ss s)[i]? = some (wi1 i sc s) := by rw [wi_get, hsc]; rfl
          rw [take_succ' hw, List.map_append]
          exact ((tv2.mono (.same (Same.tr s23 s35))).mono kt).append (Tp.mono kt (.tup eN2 (tp_words _)))
    · rintro σ H2 ⟨o3, o4, o5, o6, vs, rfl, s2, hF2, tv2⟩
      rw [las, ← wi_len ss s, List.take_length] at tv2
      exact ⟨_, rfl, k F vs H2 s2 nF hF2 tv2⟩

def spRep : Sp := fun vs H Q _ => ∃ (A B : Addr) (us : List V) (ss : List (List Wd)) (s : List P2), vs = [.ref A, .ref B] ∧ Tp H (.ref A) (scD ss) ∧ H B = some (.tup us) ∧ TpAll H us (s.map pD) ∧ ss.length ≤ 4 ∧ (∀ sc ∈ ss, sc.length ≤ 8) ∧
  ∀ (L : Addr) (vs : List V) (H' : Hp), Same H H' → H L = none → H' L = some (.lst vs) → TpAll H' vs ((wi ss s).map fun sc => .tuple (scE sc)) → Q (.ref L) H'
theorem pr_rep (D' : Df K mg "_law_replaced" sRep ["_law_scripts_here", "_law_pairs"]) (T : Tx mg) (T2 : Ty mg) : Pr P w K mg base 1 "_law_replaced" ["_law_scripts_here", "_law_pairs"] spRep := by
  refine D'.pr scRep (fun vs H Q E h => ?_) (fun f cdv A outer s H vs Q E hr h => ?_)
  · obtain ⟨A, B, us, ss, s, rfl, _⟩ := h
    rfl
  · obtain ⟨A0, B, us, ss, s, rfl, tA, hB, tB, l4, l8, k⟩ := h
    have nd := scRep.nd
    refine ⟨_, (pss_cons (ps_asg (pe_lst pa_nil) (pg_name (i := 2) nd rfl (Or.inl rfl)))
      (pss_cons (ps_for PassesOwn.never rfl (pi_enumT (by rfl) T.enumerate (pa_cons (pv 0) pa_nil)) (pg_tup rfl (pgs_cons (pg_name (i := 3) nd rfl (Or.inr rfl)) (pgs_cons (pg_name (i := 4) nd rfl (Or.inl rfl)) pgs_nil)))
        (pss_one (ps_expr (pe_bm PySem.F.plainAttrs_list PySem.F.slot_list_append PySem.F.type_list_append mt_append (pv 2) (pa_cons (pe_callTy call_tuple_of (by rfl) T2.tuple (by decide +kernel) (pa_cons (pe_lc (own := [("_law_place", 5), ("_law_word", 6)]) (g := gTup K 2 (gCons (gName 5) (gCons (gName 6) gNil))) (tt := tYes) (te := tIf (tTest (tOp (rInDT K) (tTup (tCons (tVar 3) (tCons (tVar 5) tNil))) (tVar 1))) (tC (.str "immediate")) (tVar 6)) (by rfl) nd (pi_enumT (by rfl) T.enumerate (pa_cons (pv 4) pa_nil))
  (blkOk_by (own := [("_law_place", 5), ("_law_word", 6)]) (N := nRep) (sc := defScope sRep) (by decide +kernel))
  (fun _ _ _ _ _ => pg_tup rfl (pgs_cons (pg_name (i := 5) nd rfl (Or.inl rfl) (Or.inr rfl)) (pgs_cons (pg_name (i := 6) nd rfl (Or.inl rfl) (Or.inr rfl)) pgs_nil))) (fun _ _ _ _ _ => pts_nil)
  (fun _ _ _ _ _ => (pe_ifExp (pt_cmpR (op_inDT hr.units65) (pe_tup (pa_cons (pv 3) (pa_cons (pv 5) pa_nil))) (pv 1) (by rfl)) pe_str (pv 6)))) pa_nil)) pa_nil)))))
      (pss_one (ps_ret (pv 2))))), ?_⟩
    cases tA with
    | @tup _ as _ hA tas =>
    have las : as.length = ss.length := by
      rw [tas.length, List.length_map]
    refine ⟨(by show 0 ≤ sizeLine; decide), fun F nF => ?_⟩
    generalize hF : upd H F _ = H1
    have sF : Same H H1 := hF ▸ Same.new nF
    have eF : H1 F = some (.lst []) := hF ▸ upd_same
    clear hF
    have hA1 := sF _ _ hA
    refine ⟨_, rfl, _, _, rfl, SqT.of hA1, ?_⟩
    refine for_it (walk_enumT (K := K) (a := A0) (xs := as)) (fun i σ H2 => ∃ (o3 o4 o5 o6 : Option V) (vs : List V), σ = [some (.ref A0), some (.ref B), some (.ref F), o3, o4, o5, o6] ∧ Same H H2 ∧ H2 F = some (.lst vs) ∧ TpAll H2 vs (((wi ss s).take i).map fun sc => .tuple (scE sc))) ?_ ?_ ?_ ?_
    · exact ⟨_, _, _, _, [], rfl, sF, eF, .nil⟩
    · rintro i σ H2 _ ⟨_, _, _, _, _, _, s2, _⟩
      exact SqT.of (s2 _ _ hA)
    · rintro i v σ H2 H3 hi ⟨o3, o4, o5, o6, vs, rfl, s2, hF2, tv2⟩ ⟨Tq, x, y, rfl, nT, rfl, hx, hy⟩
      cases hx
      obtain ⟨d, hd, ty⟩ := tas.get hy
      rw [List.getElem?_map] at hd
      obtain ⟨sc, hsc, rfl⟩ := Option.map_eq_some_iff.mp hd
      generalize hH3 : upd H2 Tq _ = H3
      have s23 : Same H2 H3 := hH3 ▸ Same.new nT
      have eT : H3 Tq = some (.tup [.int (i : Int), y]) := hH3 ▸ upd_same
      clear hH3
      refine ⟨_, _, rfl, SqT.of eT, rfl, _, _, rfl, _, _, rfl, rfl, ?_⟩
      have s3 := Same.tr s2 s23
      have hF3 := s23 _ _ hF2
      obtain ⟨S, xs, rfl, hS, txs⟩ := Tp.ref (ty.mono (.same s3))
      have lxs : xs.length = sc.length := by
        rw [txs.length, List.length_map]
      have l8s := l8 sc (List.mem_of_getElem? hsc)
      refine ⟨_, rfl, .inl ⟨rfl, _, SqL.of hF3⟩, ?_⟩
      refine ⟨_, rfl, S, xs, rfl, SqT.of hS, fun Dl nDl => ?_⟩
      refine lc_it (walk_enumT (K := K) (a := S) (xs := xs)) (fun j H4 => Same H3 H4 ∧ H4 Dl = some (.lst ((wV (wi1 i sc s)).take j))) ?_ ?_ ?_ ?_
      · exact ⟨same_new nDl, by rw [List.take_zero]; exact upd_same⟩
      · exact fun j H4 _ q => SqT.of (q.1 _ _ hS)
      · rintro j v H4 H5 hj ⟨s4, hD4⟩ ⟨T2, j', u, rfl, nT2, rfl, ej, eu⟩
        obtain rfl : V.int (j : Nat) = j' := Option.some.inj ej
        generalize hH5 : upd H4 T2 _ = H5
        have s45 : Same H4 H5 := hH5 ▸ Same.new nT2
        have eT2 : H5 T2 = some (.tup [.int (j : Int), u]) := hH5 ▸ upd_same
        clear hH5
        obtain ⟨du, hdu, tu⟩ := txs.get eu
        rw [List.getElem?_map] at hdu
        obtain ⟨wd, hwd, rfl⟩ := Option.map_eq_some_iff.mp hdu
        cases tu
        refine ⟨_, _, rfl, SqT.of eT2, rfl, _, _, rfl, _, _, rfl, rfl, rfl, ?_⟩
        have s5 := Same.tr s4 s45
        refine ⟨_, rfl, _, rfl, (by show 2 ≤ sizeLine; decide), fun N1 nN1 => ?_⟩
        generalize hN1 : upd H5 N1 _ = H6
        have sN1 : Same H5 H6 := hN1 ▸ Same.new nN1
        have eN1 : H6 N1 = some (.tup [.int (i : Int), .int (j : Int)]) := hN1 ▸ upd_same
        clear hN1
        have s35 := Same.tr s5 sN1
        have s05 := Same.tr s3 s35
        have tk : Tp H6 (.ref N1) (pD (i, j)) := .tup eN1 (.cons (.int _) (.cons (.int _) .nil))
        have nF : NoT H6 F := .lst (s35 _ _ hF3)
        refine ⟨_, rfl, pD (i, j), s.map pD, (tk.at nF).dp, Dp.tup (SqT.of (s05 _ _ hB)) ((tB.mono (.same s05)).at nF).dp, shaped_pD _, shaped_sD _, ?_⟩
        rw [any_pD]
        refine ⟨_, rfl, ?_⟩
        have hget : (wV (wi1 i sc s))[j]? = some (.str (wS (if (i, j) ∈ s then .imm else wd))) := by
          unfold wV
          rw [List.getElem?_map, wi1_get, hwd]
          rfl
        have fin : ∀ z : V, z = .str (wS (if (i, j) ∈ s then .imm else wd)) → ∃ acc, H6 Dl = some (.lst acc) ∧ acc.length < sizeLine ∧ Same H3 (upd H6 Dl (.lst (acc ++ [z]))) ∧ upd H6 Dl (.lst (acc ++ [z])) Dl = some (.lst ((wV (wi1 i sc s)).take (j + 1))) := by
          rintro z rfl
          have hD6 := sN1 _ _ (s45 _ _ hD4)
          refine ⟨_, hD6, ?_, fun b o e => ?_, ?_⟩
          · rw [List.length_take]
            exact small6 (by omega)
          · rw [upd_ne (ne_of_none e nDl)]
            exact s35 _ _ e
          · rw [upd_same, take_succ' hget]
        by_cases hm : (i, j) ∈ s
        · rw [decide_eq_true hm]
          refine iteT ?_
          exact fin _ (by rw [if_pos hm]; rfl)
        · rw [decide_eq_false hm]
          refine iteF ?_
          exact ⟨_, rfl, fin _ (by rw [if_neg hm])⟩
      · rintro H4 ⟨s4, hD4⟩
        rw [show xs.length = (wV (wi1 i sc s)).length by unfold wV; rw [List.length_map, wi1_len, lxs], List.take_length] at hD4
        refine ⟨_, _, rfl, .inl ⟨SqL.of hD4, fun N2 nN2 => ?_⟩⟩
        generalize hN2 : upd H4 N2 _ = H5
        have s45 : Same H4 H5 := hN2 ▸ Same.new nN2
        have eN2 : H5 N2 = some (.tup (wV (wi1 i sc s))) := hN2 ▸ upd_same
        clear hN2
        have s35 := Same.tr s4 s45
        have hF5 := s35 _ _ hF3
        have lv := tv2.length
        rw [List.length_map, List.length_take, wi_len] at lv
        refine ⟨F, vs, .ref N2, rfl, rfl, hF5, small6 (by omega), ?_⟩
        have kt : KeepT H5 (upd H5 F (.lst (vs ++ [.ref N2]))) := .lst hF5
        refine ⟨_, _, _, _, vs ++ [.ref N2], rfl, fun b o e => ?_, upd_same, ?_⟩
        · rw [upd_ne (ne_of_none e nF)]
          exact s35 _ _ (s3 _ _ e)
        · have hw : (wi ss s)[i]? = some (wi1 i sc s) := by rw [wi_get, hsc]; rfl
          rw [take_succ' hw, List.map_append]
          exact ((tv2.mono (.same (Same.tr s23 s35))).mono kt).append (Tp.mono kt (.tup eN2 (tp_words _)))
    · rintro σ H2 ⟨o3, o4, o5, o6, vs, rfl, s2, hF2, tv2⟩
      rw [las, ← wi_len ss s, List.take_length] at tv2
      exact ⟨_, rfl, k F vs H2 s2 nF hF2 tv2⟩
end
end C83

set_option Elab.async false
set_option maxRecDepth 100000
set_option maxHeartbeats 4000000
set_option linter.all false
/-! A dict comprehension whose keys are nested tuples (the form of HandS.DictComp's rule, with the dicts of ExtN). -/
namespace My
open PySem PySem.Spec PyProof.Rows L2
theorem nd_dictSet {X : Cx} {pins : List (Addr × Obj)} {σ : L2.St} {H : Hp} {s : Shared} {E : Value → Shared → Prop} {a b : Addr} {kvs : List NE} {k : NestedKey} {v : V} {r : Value} {Q : Unit → Shared → Prop} (hu : X.A.units + 64 < cLine) (I : Inv X pins σ H s) (d : DN X.prog X.w H a kvs)
    (hk : KtV H (.ref b) k) (hd : k.depth ≤ 8) (hz : kvs.length < sizeLine) (rv : RelV v r) (h : ∀ s', Inv X pins σ (upd H a (NDO X.prog X.w a (putN kvs k b v))) s' → Q () s') : wpAny (model X.prog X.w) X.A (dictSet a (.ref b) r) Q E s := by
  obtain ⟨hs, z, xs, rel, dd⟩ := nd_rd I.hok d
  have hroom : (nestedKind X.prog X.w).room X.A := by
    show X.A.units + 8 < cLine
    omega
  refine wpAny_dictSet_heap (hsz := by rw [← Paired.length rel]; exact z) hroom (nd_key I hk hd) dd fun h' dd' hsb => h _ ?_
  have he : ∃ q, h'.get? a = some q := let ⟨q, _, _, hq, _⟩ := dd'; ⟨q, hq⟩
  exact d_write I (by rw [d.1]; exact True.intro) hsb he (nd_ok hs (by have := putN_len kvs k b v; omega) (rel_put rel rv) dd')
section
variable {X : Cx}
/-- {k: v for target in iter if ..}: D the new dict -/
def tDcN (P : Program) (w : World) (wi : TI) (g : TG) (tt : TT) (tk tv : TE) (vs : List Nat) : TE := fun σ H Q => wi σ H fun J H1 => ∀ D, H1 D = none → ∃ W : Nat → Nat → Hp → Prop, (∃ m, W 0 m (upd H1 D (NDO P w D []))) ∧ ∀ i m H, W i m H →
  (J.stop i H ∧ Q (.ref D) H) ∨ (J.go i H ∧ ∃ Nx : Hp → Prop, (∀ H', Nx H' → ∃ m', m' < m ∧ W (i + 1) m' H') ∧ ∀ x H', J.yld i H x H' → g x (wipe σ vs) H' fun σ2 H2 => wipe σ2 vs = wipe σ vs ∧ tt σ2 H2 fun b H3 =>
    if b = true then tk σ2 H3 fun y H4 => tv σ2 H4 fun z H5 => ∃ kvs k q, y = .ref q ∧ DN P w H5 D kvs ∧ KtV H5 (.ref q) k ∧ k.depth ≤ 8 ∧ kvs.length < sizeLine ∧ Nx (upd H5 D (NDO P w D (putN kvs k q z))) else Nx H3)
theorem pe_dcN {kx vx tg iter : Expr} {ifs : List Expr} {scope : Scope} {own : List (Str × Nat)} {pos : Pos} {wi : TI} {g : TG} {tt : TT} {tk tv : TE} (hu : X.A.units + 64 < cLine) (hc : X.calm = true) (hN : X.N.Nodup) (hi : PI X tg iter wi) (ok : BlkOk X.N X.env.scope scope own)
    (hg : ∀ (s : Shared) (H : Hp) (C : Addr) (cl : List (Str × Addr)) (fp : List Addr), PG (X.blk s H scope (compEnvC scope cl C X.env) fp) tg g) (ht : ∀ (s : Shared) (H : Hp) (C : Addr) (cl : List (Str × Addr)) (fp : List Addr), PTs (X.blk s H scope (compEnvC scope cl C X.env) fp) ifs tt)
    (hk : ∀ (s : Shared) (H : Hp) (C : Addr) (cl : List (Str × Addr)) (fp : List Addr), PE (X.blk s H scope (compEnvC scope cl C X.env) fp) kx tk)
    (he : ∀ (s : Shared) (H : Hp) (C : Addr) (cl : List (Str × Addr)) (fp : List Addr), PE (X.blk s H scope (compEnvC scope cl C X.env) fp) vx tv) (hs : ∀ x, foldedSetIterable iter X.env x = pure x := by intro _; rfl) :
    PE X (.DictComp kx vx [⟨tg, iter, ifs, 0⟩] scope pos) (tDcN X.prog X.w wi g tt tk tv (own.map (·.2))) := by
  refine ⟨fun pins s σ H Q I h => ?_⟩
  rw [arm_eval_DictComp]
  have hfree : ∀ y ∈ scope.names, y.2 = .free → ∃ c, X.env.cells.lookup y.1 = some c := fun y hy e => (ok.free y hy e).elim (fun k => I.ok.has _ (.inl k)) fun k => I.ok.has _ (.inr k)
  refine wpAny_comprehension_free rfl hs (closure_ok hfree) ok.kind (fun y hy e => by rw [ok.uniq y hy, e]) (thn (hi.run pins s σ H _ I h) fun xv s1 hx => thn hx fun itv s2 h2 => ?_)
  obtain ⟨it, fp, tn, J, H2, e, I2, T, st2, f2, q⟩ := h2
  subst e
  refine wpAny_newObj_type (newEnv_comp ?_)
  obtain ⟨D, hD⟩ : ∃ D, s2.heap.objs.size = D := ⟨_, rfl⟩
  have hDn : H2 D = none := I2.hok.fresh (Nat.le_of_eq hD)
  obtain ⟨W, ⟨m0, w0⟩, turn⟩ := q D hDn
  obtain ⟨s3, hs3⟩ : ∃ s3, ({ s2 with heap := s2.heap.push { cls := .type "dict", data := .dict #[] } } : Shared) = s3 := ⟨_, rfl⟩
  obtain ⟨H3, hH3⟩ : ∃ H3, upd H2 D (NDO X.prog X.w D []) = H3 := ⟨_, rfl⟩
  have I3 : Inv X pins σ H3 s3 := by
    rw [← hs3, ← hH3]
    refine I2.laid (t' := s2.toks) (fun b o e => Heap.get?_push_of_some _ e) (Nat.le_of_eq hD) ?_
    rw [← hD]
    exact nd_empty s2.heap I2.big
  have h3 : s3.heap = s2.heap.push { cls := .type "dict", data := .dict #[] } := by rw [← hs3]
  have f3 : ∀ b ∈ fp, FpOk X pins H3 b ∧ b < s3.heap.objs.size := fun b hb => by
    obtain ⟨o, e, _⟩ := T.obj _ _ st2 b hb
    have hlt := Heap.lt_size e
    refine ⟨⟨?_, (f2 b hb).2⟩, by rw [h3, Heap.size_push]; exact Nat.lt_succ_of_lt hlt⟩
    rw [← hH3, upd_ne (by rw [← hD]; exact Nat.ne_of_lt hlt)]
    exact (f2 b hb).1
  have st3 : tn 0 s3.heap := T.keep _ _ _ st2 fun b _ o e => by rw [h3]; exact Heap.get?_push_of_some _ e
  have I4 := block_start I3 ok hN f3
  have pg := hg s3 H3 s3.heap.objs.size (cellsFrom (s3.heap.objs.size + 1) scope.names (cloFrom X.env.cells scope.names [])) fp
  have pt := ht s3 H3 s3.heap.objs.size (cellsFrom (s3.heap.objs.size + 1) scope.names (cloFrom X.env.cells scope.names [])) fp
  have pk := hk s3 H3 s3.heap.objs.size (cellsFrom (s3.heap.objs.size + 1) scope.names (cloFrom X.env.cells scope.names [])) fp
  have pe := he s3 H3 s3.heap.objs.size (cellsFrom (s3.heap.objs.size + 1) scope.names (cloFrom X.env.cells scope.names [])) fp
  have nfp : ∀ b ∈ fp, H3 b = none := fun b hb => (f3 b hb).1.1
  rw [hH3] at w0
  rw [hs3, hD]
  obtain ⟨ce, hce⟩ : ∃ ce, compEnvC scope (cellsFrom (s3.heap.objs.size + 1) scope.names (cloFrom X.env.cells scope.names [])) s3.heap.objs.size X.env = ce := ⟨_, rfl⟩
  have cL : ce.locals = s3.heap.objs.size := by subst hce; rfl
  rw [hce] at I4 pg pt pk pe
  obtain ⟨s4, hs4⟩ : ∃ s4, ({ s3 with heap := pushCells (s3.heap.push { cls := .type "dict", data := .dict #[] }) scope.names } : Shared) = s4 := ⟨_, rfl⟩
  rw [hs4] at I4
  have st4 : tn 0 s4.heap := T.keep _ _ _ st3 fun b _ o e => by rw [← hs4]; exact pushCells_keeps _ _ _ _ (Heap.get?_push_of_some _ e)
  have stat : ∀ {σ' : L2.St} {H' : Hp} {s' : Shared}, Inv (X.blk s3 H3 scope ce fp) [] σ' H' s' → (∀ b ∈ fp, H' b = none) → ∀ b ∈ fp, FpOk (X.blk s3 H3 scope ce fp) [] H' b := fun {σ' H' s'} I' hn b hb =>
    ⟨hn b hb, (I'.ok.exf b hb).1, I'.ok.exfs b hb, .inl hb, fun x c e => (I'.ok.exf b hb).2 x c e, fun p hp => absurd (show p ∈ ([] : List (Addr × Obj)) ++ [] from hp) (by simp)⟩
  suffices loop : codeAny (model X.prog X.w) X.A (.compLoop (.DictComp kx vx [⟨tg, iter, ifs, 0⟩] scope pos) 0 (.ref it) (.ref D) ce) (compPost (model X.prog X.w) X.A X.xe none (EP X pins σ Q) (.ref D) s3.heap.objs.size) s4 by
    show codeAny _ _ (.compStart (.DictComp kx vx [⟨tg, iter, ifs, 0⟩] scope pos) 0 (.ref it) (.ref D) (compEnvC scope (cellsFrom (s3.heap.objs.size + 1) scope.names (cloFrom X.env.cells scope.names [])) s3.heap.objs.size X.env)) (compPost (model X.prog X.w) X.A X.xe none (EP X pins σ Q) (.ref D) s3.heap.objs.size) { s3 with heap := pushCells (s3.heap.push { cls := .type "dict", data := .dict #[] }) scope.names }
    rw [hce, hs4]
    exact codeAny_compStart_dict loop (T.self X.A 0 _ _ _ st4 loop)
  refine compLoop_anyD (fun n s' => ∃ i H', Inv (X.blk s3 H3 scope ce fp) [] (wipe σ (own.map (·.2))) H' s' ∧ tn i s'.heap ∧ (∀ b ∈ fp, H' b = none) ∧ W i n H') ?_ m0 ⟨0, H3, I4, st4, nfp, w0⟩
  rintro n s5 ⟨i, H5, I5, st5, n5, w5⟩
  rcases turn i n H5 w5 with ⟨stop, qq⟩ | ⟨go, Nx, hNx, step⟩
  · refine thnF (T.done (X.blk s3 H3 scope ce fp) rfl rfl rfl hc i [] s5 _ H5 (fun _ _ => False) I5 (stat I5 n5) st5 stop) fun r s6 ⟨hr, I6⟩ => ?_
    subst hr
    have I7 : Inv X pins σ H5 s6 := I3.call' (ch := fp) I6.os I6.base I6.hok I6.bare fun b hb => ⟨(f3 b hb).1.2.2.2.1, (f3 b hb).1.2.1, (f3 b hb).1.2.2.2.2.1, (f3 b hb).1.2.2.2.2.2⟩
    have nC : H5 s3.heap.objs.size = none := by
      rw [← cL]
      exact I6.free
    obtain ⟨m, hn, _⟩ := I6.loc
    have hn : s6.heap.Ns ce.locals m := hn
    rw [cL] at hn
    obtain ⟨g0, g1, g2, g3, g4, g5⟩ := I3.fpOk (Nat.le_refl s3.heap.objs.size) nC
    exact ⟨m, hn, fun h'' sb => ⟨.ref D, H5, I7.turned (t' := s6.toks) (fun b o hb e => (sb.2 b hb).trans e) g0 g1 g3 g4 g5, rfl, qq⟩⟩
  · refine thnF (T.item (X.blk s3 H3 scope ce fp) rfl rfl rfl hc i [] s5 _ H5 (fun _ _ => False) I5 (stat I5 n5) st5 go) fun r s6 ⟨u, hr, h6⟩ => ?_
    subst hr
    refine thnF h6 fun _ s7 ⟨x, H7, I7, r7, y7, st7, n7⟩ => ?_
    refine thnF (pg.run _ s7 _ H7 x u _ (I7.pinned (stat I7 n7) (T.obj _ _ st7)) r7 (step x H7 y7)) fun _ s8 ⟨σ8, H8, I8, hw8, q8⟩ => ?_
    refine thnF (pt.run _ s8 σ8 H8 _ I8 q8) fun b s9 ⟨H9, I9, q9⟩ => ?_
    have fin : ∀ {s' : Shared} {H' : Hp}, Inv (X.blk s3 H3 scope ce fp) ([] ++ pinsAt fp s7.heap) σ8 H' s' → Nx H' → ∃ m, m < n ∧ ∃ i H', Inv (X.blk s3 H3 scope ce fp) [] (wipe σ (own.map (·.2))) H' s' ∧ tn i s'.heap ∧ (∀ b ∈ fp, H' b = none) ∧ W i m H' := fun {s' H'} I' nx => by
      obtain ⟨m', hm, w'⟩ := hNx H' nx
      have pin' : ∀ b ∈ fp, ∀ o, s7.heap.get? b = some o → s'.heap.get? b = some o ∧ H' b = none := fun b hb o e =>
        let z := I'.pin (b, o) (List.mem_append_right _ (List.mem_append_right _ (mem_pinsAt hb e)))
        ⟨z.1, z.2.1⟩
      refine ⟨m', hm, i + 1, H', (I'.unpinned (pins := [])).weak (by rw [← hw8, wipe_length]) (fun j v e => ?_), T.keep _ _ _ st7 fun b hb o e => (pin' b hb o e).1, fun b hb => ?_, w'⟩
      · rw [← hw8] at e
        exact (wipe_some e).1
      · obtain ⟨o, e, _⟩ := T.obj _ _ st7 b hb
        exact (pin' b hb o e).2
    cases b with
    | false =>
      simp only [Bool.false_eq_true, if_false] at q9 ⊢
      exact fin I9 q9
    | true =>
      simp only [if_true] at q9 ⊢
      refine thnF (pk.run _ s9 σ8 H9 _ I9 q9) fun z s10 ⟨yk, H10, I10, r10, q10⟩ => ?_
      refine thnF (pe.run _ s10 σ8 H10 _ I10 q10) fun z2 s11 ⟨yv, H11, I11, r11, kvs, k, qk, ek, d11, k11, hd11, hz11, nx⟩ => ?_
      subst ek
      cases (show z = Value.ref qk from r10)
      exact nd_dictSet (X := X.blk s3 H3 scope ce fp) hu I11 d11 k11 hd11 hz11 r11 fun s12 I12 => fin I12 nx
theorem dcN_it {P : Program} {w : World} {J : It} {n : Nat} {G : Hp → Prop} {Y : Nat → Hp → V → Hp → Prop} (wk : Walk J n G Y) {g : TG} {tt : TT} {tk tv : TE} {vs : List Nat} {σ : L2.St} {H1 : Hp} {D : Addr} {Qd : Hp → Prop} (Pv : Nat → Hp → Prop) (h0 : Pv 0 (upd H1 D (NDO P w D []))) (hG : ∀ i H, i ≤ n → Pv i H → G H)
    (hs : ∀ i x H H', i < n → Pv i H → Y i H x H' → g x (wipe σ vs) H' fun σ2 H2 => wipe σ2 vs = wipe σ vs ∧ tt σ2 H2 fun b H3 =>
      if b = true then tk σ2 H3 fun y H4 => tv σ2 H4 fun z H5 => ∃ kvs k q, y = .ref q ∧ DN P w H5 D kvs ∧ KtV H5 (.ref q) k ∧ k.depth ≤ 8 ∧ kvs.length < sizeLine ∧ Pv (i + 1) (upd H5 D (NDO P w D (putN kvs k q z))) else Pv (i + 1) H3) (hd : ∀ H, Pv n H → Qd H) :
    ∃ W : Nat → Nat → Hp → Prop, (∃ m, W 0 m (upd H1 D (NDO P w D []))) ∧ ∀ i m H, W i m H →
      (J.stop i H ∧ Qd H) ∨ (J.go i H ∧ ∃ Nx : Hp → Prop, (∀ H', Nx H' → ∃ m', m' < m ∧ W (i + 1) m' H') ∧ ∀ x H', J.yld i H x H' → g x (wipe σ vs) H' fun σ2 H2 => wipe σ2 vs = wipe σ vs ∧ tt σ2 H2 fun b H3 =>
        if b = true then tk σ2 H3 fun y H4 => tv σ2 H4 fun z H5 => ∃ kvs k q, y = .ref q ∧ DN P w H5 D kvs ∧ KtV H5 (.ref q) k ∧ k.depth ≤ 8 ∧ kvs.length < sizeLine ∧ Nx (upd H5 D (NDO P w D (putN kvs k q z))) else Nx H3) := by
  refine ⟨fun i m H => m = n - i ∧ i ≤ n ∧ Pv i H, ⟨n, rfl, Nat.zero_le _, h0⟩, ?_⟩
  rintro i m H ⟨rfl, hi, p⟩
  have q := hG i H hi p
  by_cases hlt : i < n
  · exact .inr ⟨wk.1 i H hlt q, Pv (i + 1), fun H' p' => ⟨n - (i + 1), by omega, rfl, hlt, p'⟩, fun x H' y => hs i x H H' hlt p (wk.3 i H x H' hlt q y)⟩
  · obtain rfl : i = n := by omega
    exact .inl ⟨wk.2 H q, hd H p⟩
end
end My

set_option Elab.async false
set_option maxRecDepth 100000
set_option maxHeartbeats 4000000
set_option linter.all false
/-! d[k] for a nested key where the dict is locked by a walk over it. -/
namespace My
open PySem PySem.Spec PyProof.Rows L2
def DNF (P : Program) (w : World) (H : Hp) (a : Addr) (o : Obj) (kvs : List NE) : Prop := H a = some (.frz o (NDO P w a kvs)) ∧ (kvs.map (·.1)).Nodup ∧ ∀ e ∈ kvs, KtV H (.ref e.2.1) e.1 ∧ e.1.depth ≤ 8
theorem ndf_rd {P : Program} {w : World} {H : Hp} {h : Heap} {a : Addr} {ob : Obj} (ok : HOk P w H h) {kvs : List NE} (d : DNF P w H a ob kvs) : (a == sysModules) = false ∧ kvs.length ≤ sizeLine ∧ ∃ xs, Paired RelE kvs xs ∧ h.DictOfH (nestedKind P w) a xs := by
  obtain ⟨e, hn, hk⟩ := d
  obtain ⟨_, ⟨h1, h2, xs, r, o, es, ep, q1, q2, q3, q4⟩, _⟩ := ok a _ e
  refine ⟨h1, h2, xs, r, o, es, ep, q1, q2, q3, q4, fun x hx => ?_, by rw [rel_keys r]; exact hn⟩
  obtain ⟨e, he, e1, e2, _⟩ := rel_mem r x hx
  obtain ⟨k1, k2⟩ := hk e he
  rw [← e1, ← e2]
  exact ⟨k1.is ok rfl, k2⟩
def tNGetF (P : Program) (w : World) (td ty : TE) : TE := fun σ H Q => td σ H fun x H1 => ty σ H1 fun y H2 => ∃ kvs k a b v o, x = .ref a ∧ y = .ref b ∧ DNF P w H2 a o kvs ∧ KtV H2 (.ref b) k ∧ k.depth ≤ 8 ∧ getN kvs k = some v ∧ Q v H2
theorem pe_ngetF {X : Cx} {o i : Expr} {pos : Pos} {td ty : TE} (hu : X.A.units + 64 < cLine) (ho : PE X o td) (hi : PE X i ty) (hs : NoSl i) : PE X (.Subscript o i pos) (tNGetF X.prog X.w td ty) := by
  refine ⟨fun pins s σ H Q I h => ?_⟩
  refine subD_of PySem.F.slot_dict_getitem.lookup hs (thn (ho.run pins s σ H _ I h) fun u s1 ⟨x, H1, I1, rx, q1⟩ => thn (hi.run pins s1 σ H1 _ I1 q1) fun iv s2 ⟨y, H2, I2, ry, kvs, k, a, b, v, ob, ex, ey, d, hk, hd, g, q2⟩ => ?_)
  subst ex ey
  obtain rfl : u = Value.ref a := rx
  obtain rfl : iv = Value.ref b := ry
  obtain ⟨_, _, xs, r, dd⟩ := ndf_rd I2.hok d
  refine ⟨dd.typeIs, ?_⟩
  obtain ⟨w', hw, rw'⟩ := RelO.some_of (v := v) (o := (atKey xs k).map (·.2)) (by rw [← g]; exact rel_get r)
  obtain ⟨p, hp, hp2⟩ := Option.map_eq_some_iff.mp hw
  refine wpAny_getItem_heap (nd_room hu) (nd_key I2 hk hd) dd hp ?_
  rw [hp2]
  exact ⟨v, H2, I2.tok _, rw', q2⟩
end My

set_option Elab.async false
set_option maxRecDepth 100000
set_option maxHeartbeats 4000000
set_option linter.all false
namespace C83
open PySem L2 My M78
open M83
abbrev sCalm : Stmt := top 46
abbrev nCalm : List Str := ["_law_scripts_here", "_law_here"]
theorem scCalm : FnScope nCalm ["_law_scripts_here"] (defScope sCalm) := ⟨rfl, rfl, rfl, by decide +kernel, rfl, by decide +kernel, by decide +kernel⟩
abbrev sLcm : Stmt := top 47
abbrev nLcm : List Str := ["_law_scripts_here", "_law_pairs", "_law_picks", "_law_k", "_law_one_here", "_law_pair", "_law_many", "_law_some", "_law_other", "_law_place"]
theorem scLcm : FnScope nLcm ["_law_scripts_here"] (defScope sLcm) := ⟨rfl, rfl, rfl, by decide +kernel, rfl, by decide +kernel, by decide +kernel⟩

/-- behind an expression the thing at d is locked for good -/
def tFrz (t : TE) : TE := fun σ H Q => t σ H fun v H1 => ∃ d u, H1 d = some u ∧ Mut (some u) ∧ ∀ od, Q v (upd H1 d (.frz od u))
theorem pe_frz {X : Cx} {e : Expr} {t : TE} (h : PE X e t) : PE X e (tFrz t) := by
  refine ⟨fun pins s σ H Q I hw => ?_⟩
  refine thn (h.run pins s σ H _ I hw) fun v s1 ⟨x, H1, I1, r, d, u, hd, mu, q⟩ => ?_
  obtain ⟨od, I2⟩ := I1.lock hd mu
  exact ⟨x, _, I2, r, q od⟩
theorem alike_pairs : ∀ xs ys : List P2, PySem.W.alikeAll (xs.map pD) (ys.map pD) = true
  | [], _ => by simp [PySem.W.alikeAll]
  | _ :: _, [] => by simp [PySem.W.alikeAll]
  | x :: xs, y :: ys => by
    rw [List.map_cons, List.map_cons]
    unfold PySem.W.alikeAll
    rw [alike_pairs xs ys, Bool.and_true]
    unfold pD PySem.W.alike
    simp [PySem.W.alikeAll, PySem.W.alike]
theorem alike_kD (s t : List P2) : PySem.W.alike (kD s) (kD t) = true := by
  unfold kD PySem.W.alike
  simp [PySem.W.alikeAll, PySem.W.alike, sD, alike_pairs]
theorem depth_kD (s : List P2) : (kD s).depth ≤ 50 := by
  have := depth_pairs s
  simp only [kD, sD, PyData.depth, PyData.depthAll]
  omega
theorem isT_pairs : ∀ s : List P2, isTAll (s.map pD) = true
  | [] => rfl
  | p :: r => by
    show (isT (pD p) && isTAll (r.map pD)) = true
    rw [isT_pairs r]
    rfl
theorem isT_kD (s : List P2) : isT (kD s) = true := by
  simp [kD, sD, isT, isTAll, isT_pairs]
theorem Tp.pair {H : Hp} {v : V} {s : List P2} (h : Tp H v (kD s)) : ∃ a b us, v = .ref a ∧ H a = some (.tup [.int (s.length : Int), .ref b]) ∧ H b = some (.tup us) ∧ TpAll H us (s.map pD) := by
  obtain ⟨a, xs, rfl, h1, h2⟩ := Tp.ref h
  cases h2 with
  | cons q1 q2 =>
    cases q1
    cases q2 with
    | cons q3 q4 =>
      cases q4
      obtain ⟨b, us, rfl, h3, h4⟩ := Tp.ref q3
      exact ⟨a, b, us, rfl, h1, h3, h4⟩
theorem bgs_mono {ss : List (List Wd)} {i : Nat} : ∀ {n : Nat}, i ≤ n → (bgs ss i).length ≤ (bgs ss n).length
  | 0, h => by
    obtain rfl : i = 0 := by omega
    exact Nat.le_refl _
  | n + 1, h => by
    rcases Nat.lt_or_ge n i with q | q
    · obtain rfl : i = n + 1 := by omega
      exact Nat.le_refl _
    · have := bgs_mono (ss := ss) q
      show _ ≤ (bgs ss n ++ _).length
      rw [List.length_append]
      omega
theorem _root_.My.tp_app {H : Hp} : ∀ {vs us : List V} {ds es : List PyData}, TpAll H vs ds → TpAll H us es → TpAll H (vs ++ us) (ds ++ es)
  | _, _, _, _, .nil, q => q
  | _, _, _, _, .cons h t, q => .cons h (My.tp_app t q)
/-- what calmed tells -/
def CmdV (H H' : Hp) (v : V) : Option (List (List Wd)) → Prop
  | none => v = .non
  | some ss => ∃ L vs, v = .ref L ∧ H L = none ∧ H' L = some (.lst vs) ∧ TpAll H' vs (ss.map fun sc => .tuple (scE sc))
section
variable {P : Program} {w : World} {K : PySem.W.Frag} {mg : Str → Option Value} {base : Heap}

def spCalm : Sp := fun vs H Q _ => ∃ (A : Addr) (ss : List (List Wd)), vs = [.ref A] ∧ Tp H (.ref A) (scD ss) ∧ Ok4 ss ∧ (∃ m o, H m = some o ∧ NoT H m) ∧ ∀ H', Same H H' → Q (.bl (calmB ss)) H'
theorem pr_calm (D' : Df K mg "_law_is_calm" sCalm ["_law_scripts_here"]) (TA : mg "any" = none) (PRc : Pr P w K mg base 5 "_law_reached" ["_law_scripts_here", "_law_tries"] (spRch P w)) (PLs : Pr P w K mg base 5 "_law_is_stuck" ["_law_scripts_here", "_law_here"] spIss) :
    Pr P w K mg base 6 "_law_is_calm" ["_law_scripts_here"] spCalm := by
  refine D'.pr scCalm (fun vs H Q E h => ?_) (fun f cdv A outer s H vs Q E hr5 h => ?_)
  · obtain ⟨A, ss, rfl, _⟩ := h
    rfl
  · obtain ⟨A0, ss, rfl, tA, ok4, hm, k⟩ := h
    have nd := scCalm.nd
    refine ⟨_, (pss_one (ps_ret (pe_not (pe_callB (cr_any rfl) (by rfl) TA (by decide +kernel) (pa_cons (pe_lc (own := [("_law_here", 1)]) (g := gName 1) (tt := tYes) (te := tCall spIss [] E0 (tCons (tVar 0) (tCons (tVar 1) tNil))) (by rfl) nd (pi_keysN (pe_frz (pe_callP PRc hr5 (by rfl) (pa_cons (pv 0) (pa_cons pe_bl pa_nil)))))
  (blkOk_by (own := [("_law_here", 1)]) (N := nCalm) (sc := defScope sCalm) (by decide +kernel))
  (fun _ _ _ _ _ => pg_name (i := 1) nd rfl (Or.inl rfl) (Or.inr rfl)) (fun _ _ _ _ _ => pts_nil)
  (fun _ _ _ _ _ => (pe_callP PLs hr5 (by rfl) (pa_cons (pv 0) (pa_cons (pv 1) pa_nil))))) pa_nil))))), ?_⟩
    refine ⟨_, rfl, A0, ss, true, rfl, tA, ok4, hm, fun Fd H1 N bs s1 nFd sd rel hN => ?_⟩
    have inv := bfs_inv (ss := ss) (tr := true) ok4.ok N
    have hbl : (bfs ss true N).length ≤ 4100625 := Nat.le_trans inv.len (bnd_small ok4)
    have lbs : bs.length = (bfs ss true N).length := (paired_len rel).symm
    have tA1 := tA.mono (.same s1)
    refine ⟨Fd, NDO P w Fd (bs.map kvB), sd.dict, True.intro, fun od => ?_⟩
    generalize hF5 : upd H1 Fd _ = H2
    have k12 : KeepT H1 H2 := hF5 ▸ KeepT.ext sd.dict
    have eF : H2 Fd = some (.frz od (NDO P w Fd (bs.map kvB))) := hF5 ▸ upd_same
    have s02 : Same H H2 := fun b u e => by
      rw [← hF5, upd_ne (ne_of_none e nFd)]
      exact s1 _ _ e
    clear hF5
    refine ⟨Fd, od, bs.map kvB, rfl, eF, fun Lg hLg => ?_⟩
    have nLF : Lg ≠ Fd := fun z => by
      rw [z, eF] at hLg
      cases hLg
    refine lc_it (walk_keysN (P := P) (w := w) (d := Fd) (o := od) (kvs := bs.map kvB)) (fun j H6 => Same H2 H6 ∧ H6 Lg = some (.lst ((((bfs ss true N).take j).map fun e => stk ss e.s).map V.bl))) ?_ ?_ ?_ ?_
    · exact ⟨same_new hLg, upd_same⟩
    · exact fun j H6 _ q => q.1 _ _ eF
    · rintro j u H9' H6 hj ⟨s6, hl6⟩ ⟨rfl, e, he, rfl⟩
      rw [List.getElem?_map] at he
      obtain ⟨b, hb, rfl⟩ := Option.map_eq_some_iff.mp he
      have hbm := List.mem_of_getElem? hb
      obtain ⟨e, hej, hes, hev⟩ := paired_get rel hb
      have tb := ((sd.tp b hbm).mono k12).mono (.same s6)
      have tA6 := (tA1.mono k12).mono (.same s6)
      have si : SI ss b.1 := by
        rw [← hes]
        exact inv.si e (List.mem_of_getElem? hej)
      refine ⟨rfl, ?_⟩
      refine ⟨_, rfl, _, rfl, A0, b.2.1, ss, b.1, rfl, tA6, tb, si, ok4, ⟨Lg, .lst hl6⟩, fun H7 s7 => ?_⟩
      refine ⟨_, s7 _ _ hl6, ?_, ?_, ?_⟩
      · rw [List.length_map, List.length_map, List.length_take]
        exact small6 (by omega)
      · intro b u e
        rw [upd_ne (ne_of_none e hLg)]
        exact s7 _ _ (s6 _ _ e)
      · rw [upd_same, take_succ' hej, List.map_append, List.map_append, ← hes]
        rfl
    · rintro H6 ⟨s6, hl6⟩
      rw [List.length_map, lbs, List.take_length] at hl6
      refine ⟨_, _, rfl, SqL.of hl6, ?_⟩
      refine ⟨_, rfl, ?_⟩
      have : (!((bfs ss true N).map fun e => stk ss e.s).any id) = calmB ss := by
        rw [calm_is ok4 hN, List.any_map, List.not_any_eq_all_not]
        rfl
      rw [this]
      exact k _ (Same.tr s02 s6)
def spLcm : Sp := fun vs H Q _ => ∃ (A : Addr) (ss : List (List Wd)), vs = [.ref A] ∧ Tp H (.ref A) (scD ss) ∧ Ok4 ss ∧ (bgA ss).length ≤ 6 ∧ ∀ (v : V) (H' : Hp), Same H H' → CmdV H H' v (cmd ss) → Q v H'
theorem pr_lcm (D' : Df K mg "_law_calmed" sLcm ["_law_scripts_here"]) (T : Tx mg) (T2 : Ty mg) (TR : mg "range" = none) (TS : mg "sorted" = none) (PRp : Pr P w K mg base 1 "_law_replaced" ["_law_scripts_here", "_law_pairs"] spRep) (PCa : Pr P w K mg base 6 "_law_is_calm" ["_law_scripts_here"] spCalm) :
    Pr P w K mg base 7 "_law_calmed" ["_law_scripts_here"] spLcm := by
  refine D'.pr scLcm (fun vs H Q E h => ?_) (fun f cdv A outer s H vs Q E hr h => ?_)
  · obtain ⟨A, ss, rfl, _⟩ := h
    rfl
  · obtain ⟨A0, ss, rfl, tA, ok4, hlen, k⟩ := h
    have nd := scLcm.nd
    have hr1 := hr.mono (show 1 ≤ 6 by decide)
    have l4 := ok4.l4
    refine ⟨_, (pss_cons (ps_par (by rfl) nd (i := 1) (j := 2) rfl rfl (by decide) rfl rfl (pa_cons (pe_lst pa_nil) (pa_cons (pe_lst (pa_cons (pe_tup (pa_cons pe_int (pa_cons (pe_tup pa_nil) pa_nil))) pa_nil)) pa_nil)) (by rfl))
      (pss_cons (ps_for PassesOwn.never rfl (pi_enumT (by rfl) T.enumerate (pa_cons (pv 0) pa_nil)) (pg_tup rfl (pgs_cons (pg_name (i := 3) nd rfl (Or.inr rfl)) (pgs_cons (pg_name (i := 4) nd rfl (Or.inr rfl)) pgs_nil)))
        (pss_one (ps_expr (pe_bm PySem.F.plainAttrs_list PySem.F.slot_list_extend PySem.F.type_list_extend mt_extend (pv 1) (pa_cons (pe_lc (own := [("_law_place", 9)]) (g := gName 9) (tt := tTest (tOp rEq (tOp (rIxT K) (tVar 4) (tVar 9)) (tC (.str "begin")))) (te := tTup (tCons (tVar 3) (tCons (tVar 9) tNil))) (by rfl) nd (pi_range1 rfl TR (pa_cons (pe_callB call_len (by rfl) T.len PySem.boot_len (pa_cons (pv 4) pa_nil)) pa_nil))
  (blkOk_by (own := [("_law_place", 9)]) (N := nLcm) (sc := defScope sLcm) (by decide +kernel))
  (fun _ _ _ _ _ => pg_name (i := 9) nd rfl (Or.inl rfl) (Or.inr rfl)) (fun _ _ _ _ _ => pts_one (pt_cmpR op_eq (pe_ix ix_tup (pv 4) (pv 9) (fun _ _ => rfl)) pe_str (nomark _)))
  (fun _ _ _ _ _ => (pe_tup (pa_cons (pv 3) (pa_cons (pv 9) pa_nil))))) pa_nil)))))
      (pss_cons (ps_for PassesOwn.never rfl (pi_list (pv 1)) (pg_name (i := 5) nd rfl (Or.inr rfl))
        (pss_one (ps_asg (pe_op op_cat (pv 2) (pe_lc (own := [("_law_many", 6), ("_law_some", 7)]) (g := gTup K 2 (gCons (gName 6) (gCons (gName 7) gNil))) (tt := tYes) (te := tTup (tCons (tOp (rI0 fun i j => .int (i + j)) (tVar 6) (tC (.int 1))) (tCons (tOp (rCatA K) (tVar 7) (tTup (tCons (tVar 5) tNil))) tNil))) (by rfl) nd (pi_list (pv 2))
  (blkOk_by (own := [("_law_many", 6), ("_law_some", 7)]) (N := nLcm) (sc := defScope sLcm) (by decide +kernel))
  (fun _ _ _ _ _ => pg_tup rfl (pgs_cons (pg_name (i := 6) nd rfl (Or.inl rfl) (Or.inr rfl)) (pgs_cons (pg_name (i := 7) nd rfl (Or.inl rfl) (Or.inr rfl)) pgs_nil))) (fun _ _ _ _ _ => pts_nil)
  (fun _ _ _ _ _ => (pe_tup (pa_cons (pe_op op_add (pv 6) pe_int) (pa_cons (pe_op op_catA (pv 7) (pe_tup (pa_cons (pv 5) pa_nil))) pa_nil)))))) (pg_name (i := 2) nd rfl (Or.inl rfl)))))
      (pss_cons (ps_for PassesOwn.never rfl (pi_list (pe_callB (cr_sortedN hr.units) (by rfl) TS (by decide +kernel) (pa_cons (pv 2) pa_nil))) (pg_tup rfl (pgs_cons (pg_name (i := 6) nd rfl (Or.inl rfl)) (pgs_cons (pg_name (i := 7) nd rfl (Or.inl rfl)) pgs_nil)))
        (pss_cons (ps_asg (pe_callP PRp hr1 (by rfl) (pa_cons (pv 0) (pa_cons (pv 7) pa_nil))) (pg_name (i := 8) nd rfl (Or.inl rfl)))
        (pss_one (ps_if (pt_val (pe_callP PCa hr (by rfl) (pa_cons (pe_callTy call_tuple_of (by rfl) T2.tuple (by decide +kernel) (pa_cons (pv 8) pa_nil)) pa_nil)))
          (pss_one (ps_ret (pv 8)))
          pss_nil))))
      (pss_one (ps_ret pe_non)))))), ?_⟩
    have tA' := tA
    cases tA with
    | @tup _ as _ hA tas =>
    have las : as.length = ss.length := by
      rw [tas.length, List.length_map]
    refine ⟨(by show 0 ≤ sizeLine; decide), fun P nP => ?_⟩
    generalize hP : upd H P _ = H1
    have sP : Same H H1 := hP ▸ Same.new nP
    have eP : H1 P = some (.lst []) := hP ▸ upd_same
    clear hP
    refine ⟨(by show 0 ≤ sizeLine; decide), fun e1 ne1 => ?_⟩
    generalize he1 : upd H1 e1 _ = H2
    have se1 : Same H1 H2 := he1 ▸ Same.new ne1
    have ee1 : H2 e1 = some (.tup []) := he1 ▸ upd_same
    clear he1
    refine ⟨(by show 2 ≤ sizeLine; decide), fun e2 ne2 => ?_⟩
    generalize he2 : upd H2 e2 _ = H3
    have se2 : Same H2 H3 := he2 ▸ Same.new ne2
    have ee2 : H3 e2 = some (.tup [.int 0, .ref e1]) := he2 ▸ upd_same
    clear he2
    refine ⟨(by show 1 ≤ sizeLine; decide), fun K0 nK0 => ?_⟩
    generalize hK0 : upd H3 K0 _ = H4
    have sK0 : Same H3 H4 := hK0 ▸ Same.new nK0
    have eK0 : H4 K0 = some (.lst [.ref e2]) := hK0 ▸ upd_same
    clear hK0
    refine ⟨_, _, rfl, ?_⟩
    have s04 : Same H H4 := Same.tr sP (Same.tr se1 (Same.tr se2 sK0))
    have t0 : TpAll H4 [V.ref e2] ((pks []).map kD) := .cons (.tup (sK0 _ _ ee2) (.cons (.int _) (.cons (.tup (sK0 _ _ (se2 _ _ ee1)) .nil) .nil))) .nil
    have hA4 := s04 _ _ hA
    have nKP : P ≠ K0 := ne_of_none (se2 _ _ (se1 _ _ eP)) nK0
    -- the pairs
    refine ⟨_, rfl, _, _, rfl, SqT.of hA4, ?_⟩
    refine for_it (walk_enumT (K := K) (a := A0) (xs := as)) (fun i σ H5 => ∃ (o3 o4 o5 o6 o7 o8 o9 : Option V) (vs : List V), σ = [some (.ref A0), some (.ref P), some (.ref K0), o3, o4, o5, o6, o7, o8, o9] ∧ Same H H5 ∧ H5 P = some (.lst vs) ∧ TpAll H5 vs ((bgs ss i).map pD) ∧ H5 K0 = some (.lst [.ref e2]) ∧ TpAll H5 [V.ref e2] ((pks []).map kD)) ?_ ?_ ?_ ?_
    · exact ⟨_, _, _, _, _, _, _, [], rfl, s04, sK0 _ _ (se2 _ _ (se1 _ _ eP)), .nil, eK0, t0⟩
    · rintro i σ H5 _ ⟨_, _, _, _, _, _, _, _, _, s5, _⟩
      exact SqT.of (s5 _ _ hA)
    · rintro i v σ H5 H6 hi ⟨o3, o4, o5, o6, o7, o8, o9, vs, rfl, s5, hP5, tv5, hK5, tk5⟩ ⟨Tq, x, y, rfl, nT, rfl, hx, hy⟩
      cases hx
      obtain ⟨d, hd, ty⟩ := tas.get hy
      rw [List.getElem?_map] at hd
      obtain ⟨sc, hsc, rfl⟩ := Option.map_eq_some_iff.mp hd
      generalize hH3 : upd H5 Tq _ = H6
      have s56 : Same H5 H6 := hH3 ▸ Same.new nT
      have eT : H6 Tq = some (.tup [.int (i : Int), y]) := hH3 ▸ upd_same
      clear hH3
      refine ⟨_, _, rfl, SqT.of eT, rfl, _, _, rfl, _, _, rfl, rfl, ?_⟩
      have s6 := Same.tr s5 s56
      have hP6 := s56 _ _ hP5
      obtain ⟨S, xs, rfl, hS, txs⟩ := Tp.ref (ty.mono (.same s6))
      have lxs : xs.length = sc.length := by
        rw [txs.length, List.length_map]
      have l8s := (ok4.ok sc (List.mem_of_getElem? hsc)).1
      refine ⟨_, rfl, .inl ⟨rfl, _, SqL.of hP6⟩, ?_⟩
      refine ⟨_, rfl, _, _, rfl, (Or.inr ⟨_, SqT.of hS, rfl⟩), _, rfl, by omega, by omega, fun Dl nDl => ?_⟩
      refine lc_range (lo := 0) (n := ((xs.length : Nat) : Int).toNat) (fun j H7 => Same H6 H7 ∧ ∃ zs, H7 Dl = some (.lst zs) ∧ TpAll H7 zs ((bg1 i sc j).map pD)) ?_ ?_ ?_
      · exact ⟨same_new nDl, [], upd_same, .nil⟩
      · rintro j H7 hj ⟨s7, zs, hz7, tz7⟩
        obtain ⟨u, hu⟩ : ∃ u, xs[j]? = some u := ⟨_, List.getElem?_eq_getElem (by omega)⟩
        obtain ⟨du, hdu, tu⟩ := txs.get hu
        rw [List.getElem?_map] at hdu
        obtain ⟨wd, hwd, rfl⟩ := Option.map_eq_some_iff.mp hdu
        cases tu
        refine ⟨rfl, ?_⟩
        refine ⟨_, rfl, _, rfl, S, xs, _, _, rfl, rfl, SqT.of (s7 _ _ hS), (by rw [show (0 : Int) + (j : Int) = ((j : Nat) : Int) by omega]; exact atI_nat hu), rfl, ?_⟩
        rw [show decide (V.str (wS wd) = V.str (Str.ofString "begin")) = decide (wd = .beg) from eqW wd .beg]
        refine ⟨_, rfl, ?_⟩
        have hb1 : bg1 i sc (j + 1) = bg1 i sc j ++ (if wd = .beg then [(i, j)] else []) := by
          show bg1 i sc j ++ _ = _
          rw [hwd]
          by_cases hw : wd = .beg
          · rw [hw]
            rfl
          · rw [if_neg hw, if_neg (fun z => hw (Option.some.inj z))]
        by_cases hw : wd = .beg
        · rw [decide_eq_true hw]
          refine iteT ?_
          refine ⟨_, rfl, _, rfl, (by show 2 ≤ sizeLine; decide), fun N1 nN1 => ?_⟩
          generalize hN1 : upd H7 N1 _ = H8
          have sN1 : Same H7 H8 := hN1 ▸ Same.new nN1
          have eN1 : H8 N1 = some (.tup [.int (i : Int), .int (0 + (j : Int))]) := hN1 ▸ upd_same
          clear hN1
          have hz8 := sN1 _ _ hz7
          have kt : KeepT H8 (upd H8 Dl (.lst (zs ++ [.ref N1]))) := .lst hz8
          refine ⟨zs, hz8, ?_, fun b o e => ?_, zs ++ [.ref N1], upd_same, ?_⟩
          · have l1 := tz7.length
            have l2 := bg1_le i sc j
            rw [List.length_map] at l1
            exact small6 (by omega)
          · rw [upd_ne (ne_of_none e nDl)]
            exact sN1 _ _ (s7 _ _ e)
          · rw [hb1, if_pos hw, List.map_append]
            rw [show (0 : Int) + (j : Int) = ((j : Nat) : Int) by omega] at eN1
            exact ((tz7.mono (.same sN1)).mono kt).append (Tp.mono kt (.tup eN1 (.cons (.int _) (.cons (.int _) .nil))))
        · rw [decide_eq_false hw]
          refine iteF ?_
          refine ⟨s7, zs, hz7, ?_⟩
          rw [hb1, if_neg hw, List.append_nil]
          exact tz7
      · rintro H7 ⟨s7, zs, hz7, tz7⟩
        have s57 := Same.tr s56 s7
        have hP7 := s57 _ _ hP5
        have lv := tv5.length
        have lz := tz7.length
        have l1 := bg1_le i sc ((xs.length : Nat) : Int).toNat
        have l2 := bgs_len ss i
        rw [List.length_map] at lv lz
        have l3 : (bgs ss i).length ≤ 6 := Nat.le_trans (bgs_mono (by omega)) hlen
        refine ⟨P, Dl, vs, zs, rfl, rfl, hP7, hz7, Nat.le_of_lt (small6 (by omega)), ?_⟩
        have kt : KeepT H7 (upd H7 P (.lst (vs ++ zs))) := .lst hP7
        refine ⟨_, _, _, _, _, _, _, vs ++ zs, rfl, fun b o e => ?_, upd_same, ?_, ?_, (tk5.mono (.same s57)).mono kt⟩
        · rw [upd_ne (ne_of_none e nP)]
          exact s57 _ _ (s5 _ _ e)
        · have hb : bgs ss (i + 1) = bgs ss i ++ bg1 i sc sc.length := by
            show bgs ss i ++ _ = _
            rw [hsc]
          rw [hb, List.map_append]
          rw [Int.toNat_natCast, lxs] at tz7
          exact My.tp_app ((tv5.mono (.same s57)).mono kt) (tz7.mono kt)
        · rw [upd_ne (Ne.symm nKP)]
          exact s57 _ _ hK5
    · rintro σ H5 ⟨o3, o4, o5, o6, o7, o8, o9, vs, rfl, s5, hP5, tv5, hK5, tk5⟩
      rw [las] at tv5
      obtain ⟨xs, hxs⟩ : ∃ xs, xs = bgA ss := ⟨_, rfl⟩
      rw [show bgs ss ss.length = xs from hxs.symm] at tv5
      have lxs : xs.length ≤ 6 := hxs ▸ hlen
      have lvs : vs.length = xs.length := by
        rw [tv5.length, List.length_map]
      -- the picks
      refine ⟨_, rfl, P, rfl, ⟨_, SqL.of hP5⟩, ?_⟩
      refine for_list (K := K) (xs := vs) (fun i σ H6 => ∃ (o3 o4 o5 o6 o7 o8 o9 : Option V) (K1 : Addr) (ks : List V), σ = [some (.ref A0), some (.ref P), some (.ref K1), o3, o4, o5, o6, o7, o8, o9] ∧ Same H5 H6 ∧ H6 K1 = some (.lst ks) ∧ TpAll H6 ks ((pks (xs.take i)).map kD)) ?_ ?_ ?_ ?_
      · exact ⟨_, _, _, _, _, _, _, K0, _, rfl, (fun _ _ e => e), hK5, tk5⟩
      · rintro i σ H6 _ ⟨_, _, _, _, _, _, _, _, _, _, s6, _⟩
        exact SqL.of (s6 _ _ hP5)
      · rintro i y σ H6 hy ⟨o3, o4, o5, o6, o7, o8, o9, K1, ks, rfl, s6, hK6, tk6⟩
        obtain ⟨d, hd, ty⟩ := tv5.get hy
        rw [List.getElem?_map] at hd
        obtain ⟨p, hp, rfl⟩ := Option.map_eq_some_iff.mp hd
        have hpk : pks (xs.take (i + 1)) = pks (xs.take i) ++ (pks (xs.take i)).map (· ++ [p]) := by
          rw [take_succ' hp, pks_snoc]
        have lpk : (pks (xs.take i)).length ≤ 64 := by
          rw [pks_len _ _ rfl]
          have : 2 ^ (xs.take i).length ≤ 2 ^ 6 := Nat.pow_le_pow_right (by decide) (by rw [List.length_take]; omega)
          exact this
        have lks : ks.length = (pks (xs.take i)).length := by
          rw [tk6.length, List.length_map]
        refine ⟨_, rfl, _, rfl, K1, rfl, ⟨_, SqL.of hK6⟩, fun Dl nDl => ?_⟩
        refine lc_list (K := K) (a := K1) (xs := ks) (fun j H7 => Same H6 H7 ∧ ∃ zs, H7 Dl = some (.lst zs) ∧ TpAll H7 zs ((((pks (xs.take i)).map (· ++ [p])).take j).map kD)) ?_ ?_ ?_ ?_
        · exact ⟨same_new nDl, [], upd_same, .nil⟩
        · exact fun j H7 _ q => SqL.of (q.1 _ _ hK6)
        · rintro j u H7 hu ⟨s7, zs, hz7, tz7⟩
          obtain ⟨d, hd, tu⟩ := tk6.get hu
          rw [List.getElem?_map] at hd
          obtain ⟨t, ht, rfl⟩ := Option.map_eq_some_iff.mp hd
          obtain ⟨a, b, us, rfl, h1, h2, h3⟩ := Tp.pair (tu.mono (.same s7))
          refine ⟨_, _, rfl, SqT.of h1, rfl, _, _, rfl, _, _, rfl, rfl, rfl, ?_⟩
          refine ⟨_, rfl, _, _, rfl, rfl, ?_⟩
          refine ⟨_, rfl, _, rfl, (by show 1 ≤ sizeLine; decide), fun N1 nN1 => ?_⟩
          generalize hN1 : upd H7 N1 _ = H8
          have sN1 : Same H7 H8 := hN1 ▸ Same.new nN1
          have eN1 : H8 N1 = some (.tup [y]) := hN1 ▸ upd_same
          clear hN1
          have lus : us.length = t.length := by
            rw [h3.length, List.length_map]
          have lt : t.length ≤ 6 := by
            have := ((pks_mem _ rfl).mp (List.mem_of_getElem? ht)).length_le
            rw [List.length_take] at this
            omega
          have hz8 := sN1 _ _ hz7
          refine cat_any (m := Dl) (o := .lst zs) (sN1 _ _ h2) eN1 (fun z => by rw [z, hz7] at h2; cases h2) (fun z => by rw [z, hz8] at eN1; cases eN1) hz8 (Nat.le_of_lt (small6 (by show us.length + 1 < _; omega))) fun c H9 nc s9 hc => ?_
          refine ⟨(by show 2 ≤ sizeLine; decide), fun N2 nN2 => ?_⟩
          generalize hN2 : upd H9 N2 _ = HA
          have sN2 : Same H9 HA := hN2 ▸ Same.new nN2
          have eN2 : HA N2 = some (.tup [.int ((t.length : Int) + 1), .ref c]) := hN2 ▸ upd_same
          clear hN2
          have s8A : Same H8 HA := Same.tr s9 sN2
          have s7A : Same H7 HA := Same.tr sN1 s8A
          have hzA := s7A _ _ hz7
          have kt : KeepT HA (upd HA Dl (.lst (zs ++ [.ref N2]))) := .lst hzA
          refine ⟨zs, hzA, ?_, fun b o e => ?_, zs ++ [.ref N2], upd_same, ?_⟩
          · have := tz7.length
            rw [List.length_map, List.length_take, List.length_map] at this
            exact small6 (by omega)
          · rw [upd_ne (ne_of_none e nDl)]
            exact s7A _ _ (s7 _ _ e)
          · have hg : ((pks (xs.take i)).map (· ++ [p]))[j]? = some (t ++ [p]) := by rw [List.getElem?_map, ht]; rfl
            rw [take_succ' hg, List.map_append]
            refine ((tz7.mono (.same s7A)).mono kt).append (Tp.mono kt ?_)
            refine .tup (xs := [.int ((t.length : Int) + 1), .ref c]) eN2 (.cons ?_ (.cons (.tup (sN2 _ _ hc) ?_) .nil))
            · have e : (((t ++ [p]).length : Nat) : Int) = (t.length : Int) + 1 := by rw [List.length_append]; rfl
              rw [e]
              exact .int _
            · rw [List.map_append]
              exact (h3.mono (.same s7A)).append (ty.mono (.same (Same.tr s6 (Same.tr s7 s7A))))
        · rintro H7 ⟨s7, zs, hz7, tz7⟩
          rw [show ks.length = ((pks (xs.take i)).map (· ++ [p])).length by rw [List.length_map, lks], List.take_length] at tz7
          have lz : zs.length = (pks (xs.take i)).length := by
            rw [tz7.length, List.length_map, List.length_map]
          refine ⟨K1, Dl, ks, zs, rfl, rfl, s7 _ _ hK6, hz7, Nat.le_of_lt (small6 (by omega)), fun N3 nN3 => ?_⟩
          have s8 := same_new (o := .lst (ks ++ zs)) nN3
          refine ⟨_, _, _, _, _, _, _, N3, ks ++ zs, rfl, Same.tr s6 (Same.tr s7 s8), upd_same, ?_⟩
          rw [hpk, List.map_append]
          exact My.tp_app (tk6.mono (.same (Same.tr s7 s8))) (tz7.mono (.same s8))
      · rintro σ H6 ⟨o3, o4, o5, o6, o7, o8, o9, K1, ks, rfl, s6, hK6, tk6⟩
        rw [lvs, List.take_length] at tk6
        have s06 := Same.tr s5 s6
        have srt : xs.Pairwise pLt := by
          rw [hxs]
          exact bgs_sorted ss ss.length
        -- the picks, sorted
        refine ⟨_, rfl, ?_⟩
        dsimp only [tNil]
        refine ⟨K1, K1, _, _, rfl, SqL.of hK6, tk6.at (.lst hK6), ?_, ?_, ?_, fun ys L nL ays => ?_⟩
        · intro x hx y hy
          obtain ⟨e, _, rfl⟩ := List.mem_map.mp hx
          obtain ⟨e', _, rfl⟩ := List.mem_map.mp hy
          exact alike_kD _ _
        · refine .inl fun x hx => ?_
          obtain ⟨e, he, rfl⟩ := List.mem_map.mp hx
          exact ⟨_, _, rfl⟩
        · intro x hx
          obtain ⟨e, _, rfl⟩ := List.mem_map.mp hx
          exact depth_kD _
        rw [srt_picks srt] at ays
        have tys := ays.tp (isT_all fun d hd => by
          obtain ⟨e, _, rfl⟩ := List.mem_map.mp hd
          exact isT_kD _)
        generalize hL7 : upd H6 L _ = H7
        have s7 : Same H6 H7 := hL7 ▸ Same.new nL
        have e7 : H7 L = some (.lst ys) := hL7 ▸ upd_same
        clear hL7
        have s07 := Same.tr s06 s7
        have ty7 := tys.mono (.same s7)
        have lys : ys.length = (allC xs).length := by
          rw [tys.length, List.length_map]
        refine ⟨L, rfl, ⟨_, SqL.of e7⟩, ?_⟩
        refine for_list (K := K) (xs := ys) (D := { nx := tRet (tC V.non) { nx := fun x H' => Q V.non H', rt := Q }, rt := Q }) (fun i σ H8 => ∃ (o3 o4 o5 o6 o7 o8 o9 : Option V), σ = [some (.ref A0), some (.ref P), some (.ref K1), o3, o4, o5, o6, o7, o8, o9] ∧ Same H7 H8 ∧ ∀ t ∈ (allC xs).take i, calmB (wi ss t) = false) ?_ ?_ ?_ ?_
        · exact ⟨_, _, _, _, _, _, _, rfl, (fun _ _ e => e), fun t h => nomatch h⟩
        · rintro i σ H8 _ ⟨_, _, _, _, _, _, _, _, s8, _⟩
          exact SqL.of (s8 _ _ e7)
        · rintro i y σ H8 hy ⟨o3, o4, o5, o6, o7, o8, o9, rfl, s8, hno⟩
          obtain ⟨d, hd, ty⟩ := ty7.get hy
          rw [List.getElem?_map] at hd
          obtain ⟨t, ht, rfl⟩ := Option.map_eq_some_iff.mp hd
          obtain ⟨a, b, us, rfl, h1, h2, h3⟩ := Tp.pair (ty.mono (.same s8))
          refine ⟨_, _, rfl, SqT.of h1, rfl, _, _, rfl, _, _, rfl, rfl, ?_⟩
          have s08 := Same.tr s07 s8
          have hsub : t.Sublist (bgA ss) := hxs ▸ allC_mem.mp (List.mem_of_getElem? ht)
          refine ⟨_, rfl, _, rfl, A0, b, us, ss, t, rfl, tA'.mono (.same s08), h2, h3, l4, (fun sc hs => (ok4.ok sc hs).1), fun O ws H9 s9 nO hO tO => ?_⟩
          have s09 := Same.tr s08 s9
          have okw := wi_ok ok4 hsub
          refine ⟨_, rfl, _, _, rfl, .inl ⟨SqL.of hO, fun N1 nN1 => ?_⟩⟩
          generalize hN1 : upd H9 N1 _ = HA
          have sA : Same H9 HA := hN1 ▸ Same.new nN1
          have eA : HA N1 = some (.tup ws) := hN1 ▸ upd_same
          clear hN1
          have hOA := sA _ _ hO
          refine ⟨N1, wi ss t, rfl, .tup eA (tO.mono (.same sA)), okw, ⟨O, _, hOA, .lst hOA⟩, fun HB sB => ?_⟩
          refine ⟨_, rfl, ?_⟩
          have s9B := Same.tr sA sB
          cases hc : calmB (wi ss t)
          · refine iteF ?_
            refine ⟨_, _, _, _, _, _, _, rfl, Same.tr s8 (Same.tr s9 s9B), fun t' ht' => ?_⟩
            rw [take_succ' ht] at ht'
            rcases List.mem_append.mp ht' with h | h
            · exact hno t' h
            · rw [List.mem_singleton.mp h]
              exact hc
          · refine iteT ?_
            refine ⟨_, rfl, k _ HB (Same.tr s09 s9B) ?_⟩
            have : cmd ss = some (wi ss t) := by
              unfold cmd
              rw [← hxs, first_list (f := fun s => calmB (wi ss s)) ht hno hc]
              rfl
            rw [this]
            exact ⟨O, ws, rfl, Same.free s08 nO, s9B _ _ hO, tO.mono (.same s9B)⟩
        · rintro σ H8 ⟨o3, o4, o5, o6, o7, o8, o9, rfl, s8, hno⟩
          rw [lys, List.take_length] at hno
          refine k _ H8 (Same.tr s07 s8) ?_
          have : cmd ss = none := by
            unfold cmd
            rw [← hxs]
            have : (allC xs).find? (fun s => calmB (wi ss s)) = none := by
              rw [List.find?_eq_none]
              intro t ht
              rw [hno t ht]
              exact Bool.false_ne_true
            rw [this]
            rfl
          rw [this]
          rfl
end
end C83

set_option Elab.async false
set_option maxRecDepth 100000
set_option maxHeartbeats 4000000
set_option linter.all false
namespace C83
open PySem L2 My M78
open M83
abbrev sCmd : Stmt := top 28
abbrev nCmd : List Str := ["scripts", "pairs", "at", "script", "many", "some", "changed", "k", "step"]
theorem scCmd : FnScope nCmd ["scripts"] (defScope sCmd) := ⟨rfl, rfl, rfl, by decide +kernel, rfl, by decide +kernel, by decide +kernel⟩
section
variable {P : Program} {w : World} {K : PySem.W.Frag} {mg : Str → Option Value} {base : Heap}

theorem scin_list (ss : List (List Wd)) : ScIn ss (.list (ss.map fun sc => .tuple (scE sc))) := ⟨_, .inl rfl, by
  induction ss with
  | nil => exact .nil
  | cons x r ih => exact .cons (.inr rfl) ih⟩
def spCmd : Sp := fun vs H Q _ => ∃ (m A : Addr) (o : HO) (ss : List (List Wd)) (d : PyData), H m = some o ∧ vs = [.ref A] ∧ At m H (.ref A) d ∧ ScIn ss d ∧ Ok4 ss ∧ (bgA ss).length ≤ 6 ∧ ∀ (v : V) (H' : Hp), Same H H' → CmdV H H' v (cmd ss) → Q v H'
theorem pr_cmd (D' : Df K mg "calmed" sCmd ["scripts"]) (T : Tx mg) (TR : mg "range" = none) (PC : Pr P w K mg base 3 "checked" ["scripts"] spChecked) (PCh : Pr P w K mg base 7 "choices" ["pairs", "many"] spChA) (PWi : Pr P w K mg base 1 "with_immediate" ["scripts", "pairs"] spWi) (PSt : Pr P w K mg base 6 "stuck" ["scripts"] spStk) :
    Pr P w K mg base 8 "calmed" ["scripts"] spCmd := by
  refine D'.pr scCmd (fun vs H Q E h => ?_) (fun f cdv A outer s H vs Q E hr h => ?_)
  · obtain ⟨m, A, o, ss, d, hm, rfl, _⟩ := h
    rfl
  · obtain ⟨m, A1, o, ss, d, hm, rfl, hA1, hin, ok4, hlen, k⟩ := h
    have nd := scCmd.nd
    have hr1 := hr.mono (show 1 ≤ 7 by decide)
    have hr3 := hr.mono (show 3 ≤ 7 by decide)
    have hr6 := hr.mono (show 6 ≤ 7 by decide)
    have l4 := ok4.l4
    refine ⟨_, (pss_cons (ps_asg (pe_callP PC hr3 (by rfl) (pa_cons (pv 0) pa_nil)) (pg_name (i := 0) nd rfl (Or.inl rfl)))
      (pss_cons (ps_asg (pe_lst pa_nil) (pg_name (i := 1) nd rfl (Or.inl rfl)))
      (pss_cons (ps_for PassesOwn.never rfl (pi_enumT (by rfl) T.enumerate (pa_cons (pv 0) pa_nil)) (pg_tup rfl (pgs_cons (pg_name (i := 2) nd rfl (Or.inr rfl)) (pgs_cons (pg_name (i := 3) nd rfl (Or.inl rfl)) pgs_nil)))
        (pss_one (ps_expr (pe_bm PySem.F.plainAttrs_list PySem.F.slot_list_extend PySem.F.type_list_extend mt_extend (pv 1) (pa_cons (pe_lc (own := [("k", 7), ("step", 8)]) (g := gTup K 2 (gCons (gName 7) (gCons (gName 8) gNil))) (tt := tTest (tOp rEq (tVar 8) (tC (.str "begin")))) (te := tTup (tCons (tVar 2) (tCons (tVar 7) tNil))) (by rfl) nd (pi_enumT (by rfl) T.enumerate (pa_cons (pv 3) pa_nil))
  (blkOk_by (own := [("k", 7), ("step", 8)]) (N := nCmd) (sc := defScope sCmd) (by decide +kernel))
  (fun _ _ _ _ _ => pg_tup rfl (pgs_cons (pg_name (i := 7) nd rfl (Or.inl rfl) (Or.inr rfl)) (pgs_cons (pg_name (i := 8) nd rfl (Or.inl rfl) (Or.inr rfl)) pgs_nil))) (fun _ _ _ _ _ => pts_one (pt_cmpR op_eq (pv 8) pe_str (nomark _)))
  (fun _ _ _ _ _ => (pe_tup (pa_cons (pv 2) (pa_cons (pv 7) pa_nil))))) pa_nil)))))
      (pss_cons (ps_for PassesOwn.never rfl (pi_range1 rfl TR (pa_cons (pe_op op_add (pe_callB call_len (by rfl) T.len PySem.boot_len (pa_cons (pv 1) pa_nil)) pe_int) pa_nil)) (pg_name (i := 4) nd rfl (Or.inl rfl))
        (pss_one (ps_for PassesOwn.never rfl (pi_list (pe_callP PCh hr (by rfl) (pa_cons (pv 1) (pa_cons (pv 4) pa_nil)))) (pg_name (i := 5) nd rfl (Or.inl rfl))
          (pss_cons (ps_asg (pe_callP PWi hr1 (by rfl) (pa_cons (pv 0) (pa_cons (pv 5) pa_nil))) (pg_name (i := 6) nd rfl (Or.inl rfl)))
          (pss_one (ps_if (pt_cmpR op_eq (pe_ix ix_tup (pe_callP PSt hr6 (by rfl) (pa_cons (pv 6) pa_nil)) pe_int (fun _ _ => rfl)) pe_str (nomark _))
            (pss_one (ps_ret (pv 6)))
            pss_nil))))))
      (pss_one (ps_ret pe_non)))))), ?_⟩
    refine ⟨_, rfl, m, A1, o, ss, d, hm, rfl, hA1, hin, ok4.l1, ok4.l4, ok4.ok, fun A0 H1 s1 a1 => ?_⟩
    have tA := a1.tp (isT_sc ss)
    have tA' := tA
    cases tA with
    | @tup _ as _ hA tas =>
    have las : as.length = ss.length := by
      rw [tas.length, List.length_map]
    refine ⟨(by show 0 ≤ sizeLine; decide), fun P nP => ?_⟩
    generalize hP : upd H1 P _ = H4
    have sP : Same H1 H4 := hP ▸ Same.new nP
    have eP : H4 P = some (.lst []) := hP ▸ upd_same
    clear hP
    have hA4 := sP _ _ hA
    have nP0 : H P = none := Same.free s1 nP
    -- the pairs
    refine ⟨_, rfl, _, _, rfl, SqT.of hA4, ?_⟩
    refine for_it (walk_enumT (K := K) (a := A0) (xs := as)) (fun i σ H5 => ∃ (o2 o3 o4 o5 o6 o7 o8 : Option V) (vs : List V), σ = [some (.ref A0), some (.ref P), o2, o3, o4, o5, o6, o7, o8] ∧ Same H1 H5 ∧ H5 P = some (.lst vs) ∧ TpAll H5 vs ((bgs ss i).map pD)) ?_ ?_ ?_ ?_
    · exact ⟨_, _, _, _, _, _, _, [], rfl, sP, eP, .nil⟩
    · rintro i σ H5 _ ⟨_, _, _, _, _, _, _, _, _, s5, _⟩
      exact SqT.of (s5 _ _ hA)
    · rintro i v σ H5 H6 hi ⟨o2, o3, o4, o5, o6, o7, o8, vs, rfl, s5, hP5, tv5⟩ ⟨Tq, x, y, rfl, nT, rfl, hx, hy⟩
      cases hx
      obtain ⟨d, hd, ty⟩ := tas.get hy
      rw [List.getElem?_map] at hd
      obtain ⟨sc, hsc, rfl⟩ := Option.map_eq_some_iff.mp hd
      generalize hH3 : upd H5 Tq _ = H6
      have s56 : Same H5 H6 := hH3 ▸ Same.new nT
      have eT : H6 Tq = some (.tup [.int (i : Int), y]) := hH3 ▸ upd_same
      clear hH3
      refine ⟨_, _, rfl, SqT.of eT, rfl, _, _, rfl, _, _, rfl, rfl, ?_⟩
      have s6 := Same.tr s5 s56
      have hP6 := s56 _ _ hP5
      obtain ⟨S, xs, rfl, hS, txs⟩ := Tp.ref (ty.mono (.same s6))
      have lxs : xs.length = sc.length := by
        rw [txs.length, List.length_map]
      have l8s := (ok4.ok sc (List.mem_of_getElem? hsc)).1
      refine ⟨_, rfl, .inl ⟨rfl, _, SqL.of hP6⟩, ?_⟩
      refine ⟨_, rfl, S, xs, rfl, SqT.of hS, fun Dl nDl => ?_⟩
      refine lc_it (walk_enumT (K := K) (a := S) (xs := xs)) (fun j H7 => Same H6 H7 ∧ ∃ zs, H7 Dl = some (.lst zs) ∧ TpAll H7 zs ((bg1 i sc j).map pD)) ?_ ?_ ?_ ?_
      · exact ⟨same_new nDl, [], upd_same, .nil⟩
      · exact fun j H7 _ q => SqT.of (q.1 _ _ hS)
      · rintro j v H7 H7' hj ⟨s7, zs, hz7, tz7⟩ ⟨T2, j', u, rfl, nT2, rfl, ej, hu⟩
        obtain rfl : V.int (j : Nat) = j' := Option.some.inj ej
        generalize hH5 : upd H7 T2 _ = H7'
        have s77 : Same H7 H7' := hH5 ▸ Same.new nT2
        have eT2 : H7' T2 = some (.tup [.int (j : Int), u]) := hH5 ▸ upd_same
        clear hH5
        have hz7' := s77 _ _ hz7
        obtain ⟨du, hdu, tu⟩ := txs.get hu
        rw [List.getElem?_map] at hdu
        obtain ⟨wd, hwd, rfl⟩ := Option.map_eq_some_iff.mp hdu
        cases tu
        refine ⟨_, _, rfl, SqT.of eT2, rfl, _, _, rfl, _, _, rfl, rfl, rfl, ?_⟩
        refine ⟨_, rfl, rfl, ?_⟩
        rw [show decide (V.str (wS wd) = V.str (Str.ofString "begin")) = decide (wd = .beg) from eqW wd .beg]
        refine ⟨_, rfl, ?_⟩
        have hb1 : bg1 i sc (j + 1) = bg1 i sc j ++ (if wd = .beg then [(i, j)] else []) := by
          show bg1 i sc j ++ _ = _
          rw [hwd]
          by_cases hw : wd = .beg
          · rw [hw]
            rfl
          · rw [if_neg hw, if_neg (fun z => hw (Option.some.inj z))]
        by_cases hw : wd = .beg
        · rw [decide_eq_true hw]
          refine iteT ?_
          refine ⟨_, rfl, _, rfl, (by show 2 ≤ sizeLine; decide), fun N1 nN1 => ?_⟩
          generalize hN1 : upd H7' N1 _ = H8
          have sN1 : Same H7' H8 := hN1 ▸ Same.new nN1
          have eN1 : H8 N1 = some (.tup [.int (i : Int), .int (j : Int)]) := hN1 ▸ upd_same
          clear hN1
          have hz8 := sN1 _ _ hz7'
          have kt : KeepT H8 (upd H8 Dl (.lst (zs ++ [.ref N1]))) := .lst hz8
          refine ⟨zs, hz8, ?_, fun b o e => ?_, zs ++ [.ref N1], upd_same, ?_⟩
          · have l1 := tz7.length
            have l2 := bg1_le i sc j
            rw [List.length_map] at l1
            exact small6 (by omega)
          · rw [upd_ne (ne_of_none e nDl)]
            exact sN1 _ _ (s77 _ _ (s7 _ _ e))
          · rw [hb1, if_pos hw, List.map_append]
            exact ((tz7.mono (.same (Same.tr s77 sN1))).mono kt).append (Tp.mono kt (.tup eN1 (.cons (.int _) (.cons (.int _) .nil))))
        · rw [decide_eq_false hw]
          refine iteF ?_
          refine ⟨Same.tr s7 s77, zs, hz7', ?_⟩
          rw [hb1, if_neg hw, List.append_nil]
          exact tz7.mono (.same s77)
      · rintro H7 ⟨s7, zs, hz7, tz7⟩
        have s57 := Same.tr s56 s7
        have hP7 := s57 _ _ hP5
        have lv := tv5.length
        have lz := tz7.length
        have l1 := bg1_le i sc xs.length
        rw [List.length_map] at lv lz
        have l3 : (bgs ss i).length ≤ 6 := Nat.le_trans (bgs_mono (by omega)) hlen
        refine ⟨P, Dl, vs, zs, rfl, rfl, hP7, hz7, Nat.le_of_lt (small6 (by omega)), ?_⟩
        have kt : KeepT H7 (upd H7 P (.lst (vs ++ zs))) := .lst hP7
        refine ⟨_, _, _, _, _, _, _, vs ++ zs, rfl, fun b o e => ?_, upd_same, ?_⟩
        · rw [upd_ne (ne_of_none e nP)]
          exact s57 _ _ (s5 _ _ e)
        · have hb : bgs ss (i + 1) = bgs ss i ++ bg1 i sc sc.length := by
            show bgs ss i ++ _ = _
            rw [hsc]
          rw [hb, List.map_append]
          rw [lxs] at tz7
          exact My.tp_app ((tv5.mono (.same s57)).mono kt) (tz7.mono kt)
    · rintro σ H5 ⟨o2, o3, o4, o5, o6, o7, o8, vs, rfl, s5, hP5, tv5⟩
      rw [las] at tv5
      obtain ⟨xs, hxs⟩ : ∃ xs, xs = bgA ss := ⟨_, rfl⟩
      rw [show bgs ss ss.length = xs from hxs.symm] at tv5
      have lxs : xs.length ≤ 6 := hxs ▸ hlen
      have lvs : vs.length = xs.length := by
        rw [tv5.length, List.length_map]
      have s05 := Same.tr s1 s5
      -- by size
      refine ⟨_, rfl, _, _, rfl, (Or.inl ⟨_, SqL.of hP5, rfl⟩), _, _, rfl, rfl, _, rfl, by omega, by omega, ?_⟩
      rw [show ((vs.length : Nat) : Int) + 1 = ((xs.length + 1 : Nat) : Int) by omega]
      refine for_range (lo := 0) (n := (((xs.length + 1 : Nat) : Int)).toNat) (D := { nx := tRet (tC V.non) { nx := fun x H' => Q V.non H', rt := Q }, rt := Q }) (fun i σ H6 => ∃ (o2 o3 o4 o5 o6 o7 o8 : Option V), σ = [some (.ref A0), some (.ref P), o2, o3, o4, o5, o6, o7, o8] ∧ Same H5 H6 ∧ ∀ j, j < i → ∀ t ∈ chs xs j, calmB (wi ss t) = false) ?_ ?_ ?_
      · exact ⟨_, _, _, _, _, _, _, rfl, (fun _ _ e => e), fun j h => absurd h (Nat.not_lt_zero _)⟩
      · rintro i σ H6 hi ⟨o2, o3, o4, o5, o6, o7, o8, rfl, s6, hno⟩
        have hP6 := s6 _ _ hP5
        have tv6 := tv5.mono (.same s6)
        have hi6 : i ≤ xs.length := by omega
        refine ⟨_, rfl, _, rfl, i, by omega, P, vs, xs, by rw [Int.zero_add]; rfl, hP6, tv6, lxs, fun L ws H7 s7 nL hL pr => ?_⟩
        refine ⟨L, rfl, ⟨_, SqL.of hL⟩, ?_⟩
        have s67 := Same.tr s6 s7
        have hP7 := s7 _ _ hP6
        have lws : (chs xs i).length = ws.length := paired_len pr
        refine for_list (K := K) (xs := ws) (fun j σ H8 => ∃ (o2 o3 o5 o6 o7 o8 : Option V), σ = [some (.ref A0), some (.ref P), o2, o3, some (.int (0 + (i : Int))), o5, o6, o7, o8] ∧ Same H7 H8 ∧ ∀ t ∈ (chs xs i).take j, calmB (wi ss t) = false) ?_ ?_ ?_ ?_
        · exact ⟨_, _, _, _, _, _, rfl, (fun _ _ e => e), fun t h => nomatch h⟩
        · rintro j σ H8 _ ⟨_, _, _, _, _, _, _, s8, _⟩
          exact SqL.of (s8 _ _ hL)
        · rintro j y σ H8 hy ⟨o2, o3, o5, o6, o7, o8, rfl, s8, hnj⟩
          obtain ⟨t, ht, a, us, rfl, h2, h3⟩ := paired_get pr hy
          have hsub : t.Sublist (bgA ss) := hxs ▸ (chs_mem.mp (List.mem_of_getElem? ht)).1
          have okw := wi_ok ok4 hsub
          have s18 : Same H1 H8 := Same.tr s5 (Same.tr s67 s8)
          refine ⟨_, rfl, _, rfl, A0, a, us, ss, t, rfl, tA'.mono (.same s18), s8 _ _ h2, h3.mono (.same s8), l4, (fun sc hs => (ok4.ok sc hs).1), fun O zs H9 s9 nO hO tO => ?_⟩
          have hP8 := s8 _ _ hP7
          have hP9 := s9 _ _ hP8
          have nOP : O ≠ P := fun z => by
            rw [z, hP8] at nO
            cases nO
          -- stuck
          refine ⟨_, rfl, P, O, _, wi ss t, .list ((wi ss t).map fun sc => .tuple (scE sc)), hP9, rfl, .lst nOP hO (tO.at (.lst hP9)), scin_list _, okw, fun q HA sA told => ?_⟩
          have s08 : Same H H8 := Same.tr s1 s18
          have s89 := Same.tr s9 sA
          rcases told with ⟨L2, ys, N, hq, nL2, hL2, hN, hnev, _⟩ | ⟨O2, n, e, ks, hq, hO2, he, hbef, hrf, _⟩
          · have hc := calm_never okw hN hnev
            refine ⟨_, _, _, _, rfl, rfl, SqT.of hq, rfl, rfl, _, rfl, ?_⟩
            rw [decide_eq_true rfl]
            refine iteT ?_
            refine ⟨_, rfl, k _ HA (Same.tr s08 s89) ?_⟩
            have : cmd ss = some (wi ss t) := by
              unfold cmd
              rw [← hxs, first_at (f := fun s => calmB (wi ss s)) hi6 hno ht hnj hc]
              rfl
            rw [this]
            exact ⟨O, zs, rfl, Same.free s08 nO, sA _ _ hO, tO.mono (.same sA)⟩
          · have hc := calm_order okw he hrf
            refine ⟨_, _, _, _, rfl, rfl, SqT.of hq, rfl, rfl, _, rfl, ?_⟩
            rw [decide_eq_false (show ¬ V.str (Str.ofString "order") = V.str (Str.ofString "never") by decide +kernel)]
            refine iteF ?_
            refine ⟨_, _, _, _, _, _, rfl, Same.tr s8 s89, fun t' ht' => ?_⟩
            rw [take_succ' ht] at ht'
            rcases List.mem_append.mp ht' with h | h
            · exact hnj t' h
            · rw [List.mem_singleton.mp h]
              exact hc
        · rintro σ H8 ⟨o2, o3, o5, o6, o7, o8, rfl, s8, hnj⟩
          rw [← lws, List.take_length] at hnj
          refine ⟨_, _, _, _, _, _, _, rfl, Same.tr s67 s8, fun j hj t ht => ?_⟩
          rcases Nat.lt_or_ge j i with h | h
          · exact hno j h t ht
          · obtain rfl : j = i := by omega
            exact hnj t ht
      · rintro σ H6 ⟨o2, o3, o4, o5, o6, o7, o8, rfl, s6, hno⟩
        refine k _ H6 (Same.tr s05 s6) ?_
        have : cmd ss = none := by
          unfold cmd
          rw [← hxs, first_none (f := fun s => calmB (wi ss s)) fun j hj t ht => hno j (by omega) t ht]
          rfl
        rw [this]
        rfl
end
end C83

set_option Elab.async false
set_option maxRecDepth 100000
set_option maxHeartbeats 4000000
set_option linter.all false
/-! The law's own def, run where no repr is under way; repr of data. -/
namespace My
open PySem PySem.Spec PyProof.Rows L2
/-- as FnOk, of calls that no repr is around -/
structure FnG (P : Program) (w : World) (K : PySem.W.Frag) (mg : Str → Option Value) (base : Heap) (k : Nat) (f : Addr) (fd : FuncData) (ps : List Str) (sp : Sp) : Prop where
  len : ∀ vs H Q E, sp vs H Q E → vs.length = ps.length
  run : ∀ (A : Around) (outer : List Env) (s : Shared) (H : Hp) (args : Args) (us : List Value) (vs : List V) (Q : VK) (E : XK), A.guards = some [] → Room k A → Env0 P w K mg base A outer s H → BindsTo s fd args (ps.zip us) → Vals vs us → sp vs H Q E →
    codeAny (model P w) A (.call (.ref f) args) (CR CX0 outer P w H s Q E) s
theorem FnG.of {P : Program} {w : World} {K : PySem.W.Frag} {mg : Str → Option Value} {base : Heap} {k : Nat} {f : Addr} {fd : FuncData} {ps : List Str} {sp : Sp}
    (len : ∀ vs H Q E, sp vs H Q E → vs.length = ps.length)
    (h : ∀ A : Around, A.guards = some [] → FnOk P w K mg base CX0 k f fd ps (fun vs H Q E => sp vs H Q E)) : FnG P w K mg base k f fd ps sp :=
  ⟨len, fun A outer s H args us vs Q E hg hr e0 hb r hsp => (h A hg).run A outer s H args us vs Q E hr e0 hb r hsp⟩
theorem Fun.okG {P : Program} {w : World} {K : PySem.W.Frag} {mg : Str → Option Value} {base : Heap} {x qual : Str} {st : Stmt} {f : Addr} {fd : FuncData} {N ps : List Str} {k : Nat} {sp : Sp} (F : Fun K x qual st f fd) (S : FnScope N ps (defScope st))
    (len : ∀ vs H Q E, sp vs H Q E → vs.length = ps.length)
    (hbody : ∀ (cdv : Value) (A : Around) (outer : List Env) (s : Shared) (H : Hp) (vs : List V) (Q : VK) (E : XK), A.guards = some [] → Room k (A.deeper (envOfC qual (defScope st) s.heap.objs.size f cdv)) → sp vs H Q E →
      ∃ t, PSs (cxOf CX0 P w K mg base N qual (defScope st) f cdv A outer s H E).nox (defBody st) t ∧ t { nx := fun _ H' => Q .non H', rt := Q } (start N vs) H) : FnG P w K mg base (k + 1) f fd ps sp := by
  obtain ⟨oc, od, kV, doc, pm, an, cdv, ct, osl, rfl, lk, hcd⟩ := F.ex
  refine ⟨len, fun A outer s H args us vs Q E hg hr e0 hb r hsp => ?_⟩
  have hl := len _ _ _ _ hsp
  have KX : K.In s.heap := e0.mod.kin.keeps fun b o e => (e0.bs b o e).1
  have lim : s.heap.NoLimit := e0.mod.nolimit.keeps fun b o e => (e0.bs b o e).1
  have kinds : ∀ y ∈ ps.zip us, (defScope st).names.lookup y.1 = some .local ∨ ((defScope st).names.lookup y.1 = some .cell ∧ ((cellsFrom (s.heap.objs.size + 1) (defScope st).names []).lookup y.1).isSome = true) := fun ⟨n, v⟩ hy => by
    rcases S.par n (List.of_mem_zip hy).1 with q | q
    · exact .inl q
    · exact .inr ⟨q, PySem.W.cellsFrom_some _ _ _ (.inl q)⟩
  refine codeAny_call_function hr.depth (KX _ _ lk) rfl S.co S.gen rfl (PySem.W.codeRec_of KX hcd) (hb _ _ _ _ ?_)
  refine wpAny_newFunctionEnv_cells S.kind kinds fun env he s1 x => ?_
  subst he
  refine ⟨lim.keeps x.toInCall.keep, codeAny_func ?_⟩
  obtain ⟨t, ht, hq⟩ := hbody cdv A outer s H vs Q E hg (hr.deeper _) hsp
  have I : Inv (cxOf CX0 P w K mg base N qual (defScope st) f cdv A outer s H E) [] (start N vs) H s1 := inv_start S hr.hd e0 hl r x
  refine wpAny_mono (ht.nox.run [] s1 (start N vs) H _ I hq) (fun fl s' hs => ?_) fun e s' hs => hs
  have fin : ∀ {σ' : L2.St} {H' : Hp} {v : V} {u : Value}, Inv (cxOf CX0 P w K mg base N qual (defScope st) f cdv A outer s H E) [] σ' H' s' → RelV v u → Q v H' → CE outer P w H s Q u s' :=
    fun {σ' H' v u} J rv q => ⟨v, H', J.os, J.bare, J.base, J.hok, rv, q⟩
  cases fl with
  | ret u =>
    obtain ⟨v, σ', H', J, rv, q⟩ := hs
    exact fin J rv q
  | next =>
    obtain ⟨σ', H', J, q⟩ := hs
    exact fin (v := V.non) (u := Value.none) J rfl q
  | brk =>
    obtain ⟨_, _, _, q⟩ := hs
    exact False.elim q
  | cont =>
    obtain ⟨_, _, _, q⟩ := hs
    exact False.elim q
theorem law_callG {P : Program} {w : World} {K : PySem.W.Frag} {mg mb : Str → Option Value} {k : Nat} {fa a : Addr} {fd : FuncData} {x : Str} {sp : Sp} {s₁ : Shared} {vs : List Value} {ns : List Int}
    (KX : K.In s₁.heap) (hns : s₁.heap.Ns mainGlobals mg) (hb : s₁.heap.Ns builtinsNs mb) (hbb : ∀ x : Str, x ≠ "__name__" → mb x = bootBuiltins x) (hlim : s₁.heap.NoLimit) (hg : s₁.gens = #[])
    (ha : s₁.heap.get? a = some { cls := .type "list", data := .seq vs.toArray }) (hi : IntsAre vs ns) (hl : ns.length ≤ sizeLine) (hr : Room k callerA)
    (F : ∀ base : Heap, K.In base → base.Ns mainGlobals mg → FnG P w K mg base k fa fd [x] sp) (hbind : ∀ (s : Shared) (u : Value), BindsTo s fd ⟨[u], []⟩ [(x, u)])
    (hsp : ∀ H : Hp, Only H → SqL K H a (ns.map V.int) → sp [.ref a] H (fun v _ => v = .bl true) fun _ _ _ => False) :
    codeAny (model P w) callerA (.call (.ref fa) ⟨[.ref a], []⟩) (fun r s' => r = .ok (.ret (.bool true)) ∧ OldK s₁.heap s'.heap ∧ s'.os = s₁.os ∧ AllBare s'.gens) s₁ := by
  have rv := vals_ints hi
  have lv := hi.length
  have core : ∀ H : Hp, Only H → SqL K H a (ns.map V.int) → HOk P w H s₁.heap → (∀ b, H b ≠ none → b = a) → (H a ≠ none → K.lookup a = none) →
      codeAny (model P w) callerA (.call (.ref fa) ⟨[.ref a], []⟩) (fun r s' => r = .ok (.ret (.bool true)) ∧ OldK s₁.heap s'.heap ∧ s'.os = s₁.os ∧ AllBare s'.gens) s₁ := by
    intro H hO hS hok hA hK
    have hid : ∀ {b : Addr} {o : Obj}, s₁.heap.get? b = some o → H b = none → (hidT s₁.heap H).get? b = some o := fun e n => hidT_get e n
    have noA : ∀ {b : Addr} {o : Obj} {es : Array DictEntry} {ep : Nat}, s₁.heap.get? b = some o → o.data = .dict es ep → H b = none := fun {b o es ep} e d => by
      cases q : H b with
      | none => rfl
      | some u =>
        have e' : b = a := hA b (by rw [q]; simp)
        subst e'
        rw [ha] at e
        cases e
        exact nomatch (show Data.seq vs.toArray _ = Data.dict es ep from d)
    have nsK : ∀ {b : Addr} {m : Str → Option Value}, s₁.heap.Ns b m → (hidT s₁.heap H).Ns b m := fun {b m} ⟨o, es, ep, e, d, r⟩ => ⟨o, es, ep, hid e (noA e d), d, r⟩
    have kb : K.In (hidT s₁.heap H) := fun b o e => hid (KX b o e) (by
      cases q : H b with
      | none => rfl
      | some u =>
        have e' : b = a := hA b (by rw [q]; simp)
        subst e'
        rw [hK (by rw [q]; simp)] at e
        cases e)
    have md : Mod K mg (hidT s₁.heap H) := ⟨kb, nsK hns, ⟨mb, nsK hb, hbb⟩, let ⟨mc, h1, h2⟩ := hlim; ⟨mc, nsK h1, h2⟩⟩
    have e0 : Env0 P w K mg (hidT s₁.heap H) callerA [] s₁ H := ⟨rfl, md, fun b o e => of_hidT e, Nat.le_of_eq (hidT_size _ _), trivial, fun b hb => absurd (show b ∈ ([] : List Addr) from hb) (by simp), hok, .of_eq hg⟩
    refine codeAny_mono ((F _ kb (nsK hns)).run callerA [] s₁ H ⟨[.ref a], []⟩ [.ref a] [.ref a] _ _ rfl hr e0 (hbind s₁ (.ref a)) (.cons rfl .nil) (hsp H hO hS)) fun r s' h => ?_
    cases r with
    | error e => exact False.elim h
    | ok fl =>
      cases fl with
      | next => exact False.elim h
      | brk => exact False.elim h
      | cont => exact False.elim h
      | ret u =>
        obtain ⟨v, H', os, bare, un, hok', r', q⟩ := h
        have q' : v = .bl true := q
        subst q'
        obtain rfl : u = Value.bool true := r'
        refine ⟨rfl, OldK.of_keep fun b o e => ?_, os, bare⟩
        cases q : H b with
        | none => exact un.keep b o e q (by intro z; exact absurd (show b ∈ ([] : List Addr) from z) (by simp)) (by simp)
        | some u =>
          rcases hO b with z | ⟨ob, xs, z⟩
          · rw [q] at z
            cases z
          · have z2 := un.frzs b ob _ z
            obtain ⟨e1, _⟩ := hok b _ z
            obtain ⟨e2, _⟩ := hok' b _ z2
            rw [e] at e1
            cases e1
            exact e2
  cases hk : K.lookup a with
  | some o =>
    have e := KX a o hk
    rw [ha] at e
    cases e
    exact core (fun _ => none) (fun _ => .inl rfl) (.inr ⟨_, vs.toArray, _, hk, rfl, rfl, rfl, by rw [List.size_toArray, lv]; exact hl, by simpa using rv⟩) (fun b u z => nomatch (show (none : Option HO) = some u from z)) (fun b z => absurd rfl z) fun z => absurd rfl z
  | none =>
    refine core (fun b => if b = a then some (.frz { cls := .type "list", data := .seq vs.toArray } (.lst (ns.map V.int))) else none) (fun b => ?_) (.inl (.inr ⟨{ cls := .type "list", data := .seq vs.toArray }, if_pos rfl⟩)) (fun b u z => ?_) (fun b z => ?_) fun _ => hk
    · by_cases hb : b = a
      · exact .inr ⟨_, _, if_pos hb⟩
      · exact .inl (if_neg hb)
    · by_cases hb : b = a
      · have z' := (if_pos hb).symm.trans z
        cases z'
        subst hb
        exact ⟨ha, by rw [List.length_map]; exact hl, vs, _, rv, ha⟩
      · have z' := (if_neg hb).symm.trans z
        cases z'
    · by_cases hb : b = a
      · exact hb
      · exact absurd (if_neg hb) z
theorem walk_ofG {l : PySem.W.OpenLaw} {n k : Nat} {q : Program} {loose : List Str} {XP : (Str → Option Value) → Heap → Prop} {YP : World → Heap → Prop} {d : DefRec} {K : Params → PySem.W.Frag} {sp : World → Sp} {x : Str}
    (hn : l.most = some n) (hn2 : n ≤ sizeLine) (hdf : d.params.defaults = []) (hr : Room k callerA)
    (hY : ∀ (w : World) (h : Heap), YP w h → (K w.params).In h)
    (F : ∀ (w : World) (mg : Str → Option Value) (fa : Addr) (h : Heap), (K w.params).In h → h.Ns mainGlobals mg → mg d.name = some (.ref fa) →
      ∃ fd : FuncData, (∀ (s : Shared) (u : Value), BindsTo s fd ⟨[u], []⟩ [(x, u)]) ∧
        ∀ base : Heap, (K w.params).In base → base.Ns mainGlobals mg → FnG l.prog w (K w.params) mg base k fa fd [x] (sp w))
    (hsp : ∀ (w : World) (H : Hp) (a : Addr) (ns : List Int), ns.length ≤ n → Only H → SqL (K w.params) H a (ns.map V.int) → sp w [.ref a] H (fun v _ => v = .bl true) fun _ _ _ => False) :
    PySem.W.WalkO q loose XP YP l.row.toRowW d [] (fun f vs => PySem.call f vs) := by
  refine Att.attach_call hn hdf fun w s₀ s₁ mg mb fa o pm cd doc a vs ns G Y ho hd hcd hmg hobj hints hlen hg => ?_
  have KX := hY w _ Y
  obtain ⟨fd, hb, hF⟩ := F w mg fa _ KX G.T.g hmg
  exact law_callG KX G.T.g G.T.b G.T.builtins G.T.nolimit hg hobj hints (Nat.le_trans hlen hn2) hr hF hb (fun H hO hS => hsp w H a ns hlen hO hS)
/-- repr(x) of data that stands in the heap -/
def rRepr (K : PySem.W.Frag) : List V → Hp → VK → Prop := fun xs H Q => ∃ (a : Addr) (d : PyData), xs = [.ref a] ∧ Dp K H (.ref a) d ∧ d.showable = true ∧ d.hasDict = false ∧ d.depth ≤ 60 ∧ d.shown.length ≤ sizeLine ∧ Q (.str d.shown) H
theorem call_repr {X : Cx} (hg : X.A.guards = some []) (hu : X.A.units + 64 < cLine) : CallR X (.builtin "repr") (rRepr X.K) := by
  intro pins s σ H xs us Q I r h
  obtain ⟨a, d, rfl, hd, hs, hnd, hdp, hsz, q⟩ := h
  cases r with
  | cons r1 rr =>
    cases rr
    obtain ⟨as, rd⟩ := Dp.reads I d _ _ hd r1
    cases (show _ = Value.ref a from r1)
    refine repr_of_reads' rd hs (fun z => by rw [hnd] at z; cases z) hg (by omega) (fun b o e => e) (fun h' u tk hk => ?_) hsz
    exact ⟨.str d.shown, H, I.kept (t' := tk) hk, ⟨_, rfl⟩, q⟩
end My

set_option Elab.async false
set_option maxRecDepth 100000
set_option maxHeartbeats 4000000
set_option linter.all false
namespace C83
open PySem L2 My M78
open M83
abbrev sSix : Stmt := top 48
abbrev nSix : List Str := ["_law_state", "_law_found", "_law_k", "_law_words", "_law_nth"]
theorem scSix : FnScope nSix ["_law_state"] (defScope sSix) := ⟨rfl, rfl, rfl, by decide +kernel, rfl, by decide +kernel, by decide +kernel⟩
section
variable {P : Program} {w : World} {K : PySem.W.Frag} {mg : Str → Option Value} {base : Heap}

def spScriptF : Sp := fun vs H Q _ => ∃ (st c : Addr) (ns : List Int) (n : Nat), vs = [.ref st, .int (n : Int)] ∧ Drw H st c ns ∧ ns.length ≤ 63 ∧ n ≤ 8 ∧
  ∀ (sc : List Wd) (q : Addr) (H' : Hp), okScr sc → H q = none → FzT H' q (wV sc) → Drw H' st c ns → But st H H' → Q (.ref q) H'
theorem pr_scriptF (D : Df K mg "_law_script" sScript ["_law_state", "_law_many"]) (T : Tx mg) (T2 : Ty mg) (TR : mg "range" = none) (TM : mg "min" = none) (PT : Pr P w K mg base 2 "_law_take" ["_law_state", "_law_many"] spTake) (PO : Pr P w K mg base 3 "_law_one" ["_law_state", "_law_things"] (spOne K)) :
    Pr P w K mg base 4 "_law_script" ["_law_state", "_law_many"] spScriptF := by
  refine D.pr scScript (fun vs H Q E h => ?_) (fun f cdv A outer s H vs Q E hr h => ?_)
  · obtain ⟨st, c, ns, n, rfl, _⟩ := h
    rfl
  · obtain ⟨st, c, ns, n, rfl, dr, hns, hn8, k⟩ := h
    have nd := scScript.nd
    have hr2 := hr.mono (show 2 ≤ 3 by decide)
    refine ⟨_, (pss_cons (ps_par3 (by rfl) nd (i := 2) (j := 3) (l := 4) rfl rfl rfl (by decide) (by decide) (by decide) rfl rfl rfl (pa_cons (pe_lst pa_nil) (pa_cons pe_bl (pa_cons pe_bl pa_nil))) (by rfl))
      (pss_cons (ps_asg (pe_callP PO hr (by rfl) (pa_cons (pv 0) (pa_cons (pe_lst (pa_cons (pe_tup (pa_cons pe_str (pa_cons pe_str (pa_cons pe_str (pa_cons pe_str pa_nil))))) (pa_cons (pe_tup (pa_cons pe_str (pa_cons pe_str (pa_cons pe_str pa_nil)))) (pa_cons (pe_tup (pa_cons pe_str (pa_cons pe_str pa_nil))) (pa_cons (pe_tup (pa_cons pe_str (pa_cons pe_str (pa_cons pe_str pa_nil)))) (pa_cons (pe_tup (pa_cons pe_str (pa_cons pe_str (pa_cons pe_str pa_nil)))) (pa_cons (pe_tup (pa_cons pe_str (pa_cons pe_str (pa_cons pe_str pa_nil)))) pa_nil))))))) pa_nil))) (pg_name (i := 5) nd rfl (Or.inl rfl)))
      (pss_cons (ps_asg (pe_callP PT hr2 (by rfl) (pa_cons (pv 0) (pa_cons (pe_op op_mul pe_int (pe_callB call_len (by rfl) T.len PySem.boot_len (pa_cons (pv 5) pa_nil))) pa_nil))) (pg_name (i := 6) nd rfl (Or.inl rfl)))
      (pss_cons (ps_for PassesOwn.never rfl (pi_range1 rfl TR (pa_cons (pe_op op_sub (pv 1) (pe_op op_mul (pe_callP PT hr2 (by rfl) (pa_cons (pv 0) (pa_cons pe_int pa_nil))) (pe_callTy call_int1 (by rfl) T.int (by decide +kernel) (pa_cons (pe_cmpR op_gt (pv 1) pe_int (nomark _)) pa_nil)))) pa_nil)) (pg_name (i := 7) nd rfl (Or.inl rfl))
        (pss_cons (ps_asg (pe_lst (pa_cons pe_str (pa_cons pe_str (pa_cons (pe_ix ix_tup (pe_tup (pa_cons pe_str (pa_cons pe_str pa_nil))) (pe_callTy call_int1 (by rfl) T.int (by decide +kernel) (pa_cons (pv 4) pa_nil)) (fun _ _ => rfl)) pa_nil)))) (pg_name (i := 8) nd rfl (Or.inl rfl)))
        (Evl.pss_cut (ps_if (pt_val (pv 3))
          (pss_one (ps_asg (pe_op op_cat (pv 8) (pe_lst (pa_cons pe_str (pa_cons pe_str (pa_cons pe_str (pa_cons pe_str (pa_cons pe_str pa_nil))))))) (pg_name (i := 8) nd rfl (Or.inl rfl))))
          (pss_one (ps_asg (pe_op op_cat (pv 8) (pe_lst (pa_cons pe_str (pa_cons pe_str (pa_cons pe_str (pa_cons pe_str pa_nil)))))) (pg_name (i := 8) nd rfl (Or.inl rfl)))))
        (pss_cons (ps_asg (pe_callP PO hr (by rfl) (pa_cons (pv 0) (pa_cons (pv 8) pa_nil))) (pg_name (i := 9) nd rfl (Or.inl rfl)))
        (Evl.pss_cut (ps_if (PW.pt (pw_and (pt_cmpR op_lt (pv 7) (pe_callB (call_min2 rfl) (by rfl) TM (by decide +kernel) (pa_cons (pv 6) (pa_cons (pe_callB call_len (by rfl) T.len PySem.boot_len (pa_cons (pv 5) pa_nil)) pa_nil))) (nomark _)) (pw_and1 (pt_cmpR op_in_seq (pe_ix ix_tup (pv 5) (pv 7) (fun _ _ => rfl)) (pv 8) (by rfl)))))
          (pss_one (ps_asg (pe_ix ix_tup (pv 5) (pv 7) (fun _ _ => rfl)) (pg_name (i := 9) nd rfl (Or.inl rfl))))
          pss_nil)
        (pss_cons (ps_expr (pe_bm PySem.F.plainAttrs_list PySem.F.slot_list_append PySem.F.type_list_append mt_append (pv 2) (pa_cons (pv 9) pa_nil)))
        (pss_cons (ps_asg (pe_and (pe_cmpR op_notIn_seq (pv 9) (pe_tup (pa_cons pe_str (pa_cons pe_str pa_nil))) (by rfl)) (pe_one (pe_or (pv 3) (pe_one (pe_cmpR op_in_seq (pv 9) (pe_tup (pa_cons pe_str (pa_cons pe_str (pa_cons pe_str pa_nil)))) (by rfl)))))) (pg_name (i := 3) nd rfl (Or.inl rfl)))
        (pss_one (ps_asg (pe_and (pe_cmpR op_ne (pv 9) pe_str (nomark _)) (pe_one (pe_or (pv 4) (pe_one (pe_cmpR op_eq (pv 9) pe_str (nomark _)))))) (pg_name (i := 4) nd rfl (Or.inl rfl)))))))))))
      (pss_one (ps_ret (pe_callTy call_tupleF (by rfl) T2.tuple (by decide +kernel) (pa_cons (pv 2) pa_nil)))))))), ?_⟩
    refine ⟨(by show 0 ≤ sizeLine; decide), fun F hF => ⟨_, _, _, rfl, ?_⟩⟩
    have sF := same_new (o := HO.lst []) hF
    have eF : upd H F (.lst []) F = some (.lst []) := upd_same
    generalize upd H F (.lst []) = H0 at sF eF ⊢
    have dr0 := dr.same sF
    have nF : F ≠ st := dr.nst hF
    have b0 : But st H H0 := Same.but sF
    -- usual
    refine ⟨_, rfl, (by show 4 ≤ sizeLine; decide), fun T1 nT1 => ?_⟩
    generalize hT1 : upd H0 T1 _ = H1
    have s1 : Same H0 H1 := hT1 ▸ Same.new nT1
    have e1 : H1 T1 = some (.tup [.str (Str.ofString "begin"), .str (Str.ofString "read"), .str (Str.ofString "write"), .str (Str.ofString "commit")]) := hT1 ▸ upd_same
    clear hT1
    refine ⟨(by show 3 ≤ sizeLine; decide), fun T3 nT3 => ?_⟩
    generalize hT3 : upd H1 T3 _ = H3
    have s3 : Same H1 H3 := hT3 ▸ Same.new nT3
    have e3 : H3 T3 = some (.tup [.str (Str.ofString "immediate"), .str (Str.ofString "write"), .str (Str.ofString "commit")]) := hT3 ▸ upd_same
    clear hT3
    refine ⟨(by show 2 ≤ sizeLine; decide), fun T4 nT4 => ?_⟩
    generalize hT4 : upd H3 T4 _ = H4
    have s4 : Same H3 H4 := hT4 ▸ Same.new nT4
    have e4 : H4 T4 = some (.tup [.str (Str.ofString "write"), .str (Str.ofString "read")]) := hT4 ▸ upd_same
    clear hT4
    refine ⟨(by show 3 ≤ sizeLine; decide), fun T5 nT5 => ?_⟩
    generalize hT5 : upd H4 T5 _ = H5
    have s5 : Same H4 H5 := hT5 ▸ Same.new nT5
    have e5 : H5 T5 = some (.tup [.str (Str.ofString "start"), .str (Str.ofString "begin"), .str (Str.ofString "write")]) := hT5 ▸ upd_same
    clear hT5
    refine ⟨(by show 3 ≤ sizeLine; decide), fun T6 nT6 => ?_⟩
    generalize hT6 : upd H5 T6 _ = H6
    have s6 : Same H5 H6 := hT6 ▸ Same.new nT6
    have e6 : H6 T6 = some (.tup [.str (Str.ofString "begin"), .str (Str.ofString "read"), .str (Str.ofString "commit")]) := hT6 ▸ upd_same
    clear hT6
    refine ⟨(by show 3 ≤ sizeLine; decide), fun T7 nT7 => ?_⟩
    generalize hT7 : upd H6 T7 _ = H7
    have s7 : Same H6 H7 := hT7 ▸ Same.new nT7
    have e7 : H7 T7 = some (.tup [.str (Str.ofString "exclusive"), .str (Str.ofString "read"), .str (Str.ofString "commit")]) := hT7 ▸ upd_same
    clear hT7
    refine ⟨(by show 6 ≤ sizeLine; decide), fun T8 nT8 => ?_⟩
    generalize hT8 : upd H7 T8 _ = H8
    have s8 : Same H7 H8 := hT8 ▸ Same.new nT8
    have e8 : H8 T8 = some (.lst [.ref T1, .ref T3, .ref T4, .ref T5, .ref T6, .ref T7]) := hT8 ▸ upd_same
    clear hT8
    have s78 := s8
    have s68 := Same.tr s7 s78
    have s58 := Same.tr s6 s68
    have s48 := Same.tr s5 s58
    have s38 := Same.tr s4 s48
    have s18 := Same.tr s3 s38
    have s08 := Same.tr s1 s18
    have dr8 := dr0.same s08
    have q1 : ∀ x, x ∈ [V.ref T1, .ref T3, .ref T4, .ref T5, .ref T6, .ref T7] → ∃ u us, x = .ref u ∧ u ≠ st ∧ H8 u = some (.tup (wV us)) ∧ 0 < us.length ∧ us.length ≤ 4 := by
      intro x hx
      simp only [List.mem_cons, List.not_mem_nil, or_false] at hx
      rcases hx with rfl | rfl | rfl | rfl | rfl | rfl
      · exact ⟨T1, [.beg, .rea, .wri, .com], rfl, dr0.nst nT1, s18 _ _ e1, by decide, by decide⟩
      · exact ⟨T3, [.imm, .wri, .com], rfl, (dr0.same s1).nst nT3, s38 _ _ e3, by decide, by decide⟩
      · exact ⟨T4, [.wri, .rea], rfl, (dr0.same (Same.tr s1 s3)).nst nT4, s48 _ _ e4, by decide, by decide⟩
      · exact ⟨T5, [.sta, .beg, .wri], rfl, (dr0.same (Same.tr s1 (Same.tr s3 s4))).nst nT5, s58 _ _ e5, by decide, by decide⟩
      · exact ⟨T6, [.beg, .rea, .com], rfl, (dr0.same (Same.tr s1 (Same.tr s3 (Same.tr s4 s5)))).nst nT6, s68 _ _ e6, by decide, by decide⟩
      · exact ⟨T7, [.exc, .rea, .com], rfl, (dr0.same (Same.tr s1 (Same.tr s3 (Same.tr s4 (Same.tr s5 s6))))).nst nT7, s78 _ _ e7, by decide, by decide⟩
    refine ⟨st, c, T8, ns, _, rfl, dr8, hns, (dr0.same (Same.tr s1 (Same.tr s3 (Same.tr s4 (Same.tr s5 (Same.tr s6 s7)))))).nst nT8, .inl (SqL.of e8), (by show 0 < 6; decide), (by show 6 ≤ 10000; decide), fun x H9 hx dr9 b9 => ?_⟩
    obtain ⟨u, us, rfl, nu, hu8, hu1, hu4⟩ := q1 x hx
    have hu9 := b9 _ _ hu8 nu
    have hF9 : H9 F = some (.lst []) := b9 _ _ (s08 _ _ eF) nF
    have bb9 : But st H H9 := (b0.tr' s08).trans b9
    have lus : (wV us).length = us.length := List.length_map ..
    -- upto
    refine ⟨_, rfl, _, rfl, _, _, rfl, (Or.inr ⟨_, SqT.of hu9, rfl⟩), _, _, rfl, rfl, .inl ⟨by decide, by decide⟩, ?_⟩
    refine ⟨st, c, ns, _, rfl, dr9, hns, (by rw [lus]; omega), (by rw [lus]; omega), fun up H10 hup0 hup1 dr10 b10 => ?_⟩
    have hu10 := b10 _ _ hu9 nu
    have hF10 := b10 _ _ hF9 nF
    have bb10 : But st H H10 := bb9.trans b10
    -- the number of turns
    refine ⟨_, rfl, _, rfl, st, c, ns, 3, rfl, dr10, hns, (by decide), (by decide), fun d3 H11 hd0 hd3 dr11 b11 => ?_⟩
    have hu11 := b11 _ _ hu10 nu
    have hF11 := b11 _ _ hF10 nF
    have bb11 : But st H H11 := bb10.trans b11
    refine ⟨_, rfl, _, _, rfl, rfl, .inr ⟨_, rfl, _, _, rfl, rfl, .inl ⟨by omega, by omega⟩, _, _, rfl, rfl, _, rfl, ?_⟩⟩
    generalize hN : ((n : Nat) : Int) - d3 * (if decide (2 < ((n : Nat) : Int)) = true then 1 else 0) = N
    have hN8 : N ≤ 8 := by
      subst hN
      split <;> omega
    have hN0 : -10 ≤ N := by
      subst hN
      split <;> omega
    refine ⟨(by omega), (by omega), ?_⟩
    refine for_range (lo := 0) (n := N.toNat) (fun i σ H2 => But st H H2 ∧ Drw H2 st c ns ∧ H2 u = some (.tup (wV us)) ∧ ∃ (sc : List Wd) (v7 v8 v9 : Option V), sc.length = i ∧ okAll sc ∧ H2 F = some (.lst (wV sc)) ∧
      σ = [some (.ref st), some (.int (n : Int)), some (.ref F), some (.bl (flg sc i).1), some (.bl (flg sc i).2), some (.ref u), some (.int up), v7, v8, v9]) ?_ ?_ ?_
    · exact ⟨bb11, dr11, hu11, [], _, _, _, rfl, fun n v e => by simp at e, hF11, rfl⟩
    · rintro i σ H2 hi ⟨bH, drH, huH, sc, v7, v8, v9, hsc, hok, hFH, rfl⟩
      generalize ho : (flg sc i).1 = o
      generalize hrd : (flg sc i).2 = r
      rw [show (0 : Int) + (i : Nat) = ((i : Nat) : Int) by omega]
      -- some
      have hat : atI [V.str (Str.ofString "start"), .str (Str.ofString "stop")] (if r = true then 1 else 0) = some (.str (wS (if r then .sto else .sta))) := by cases r <;> rfl
      refine ⟨(by show 2 ≤ sizeLine; decide), fun P1 nP1 => ?_⟩
      generalize hP1 : upd H2 P1 _ = H3
      have t1 : Same H2 H3 := hP1 ▸ Same.new nP1
      have f1 : H3 P1 = some (.tup [.str (Str.ofString "start"), .str (Str.ofString "stop")]) := hP1 ▸ upd_same
      clear hP1
      refine ⟨_, rfl, .inr ⟨_, rfl, _, _, _, _, rfl, rfl, SqT.of f1, hat, ?_⟩⟩
      refine ⟨(by show 3 ≤ sizeLine; decide), fun P2 nP2 => ?_⟩
      generalize hP2 : upd H3 P2 _ = H4
      have t2 : Same H3 H4 := hP2 ▸ Same.new nP2
      have f2 : H4 P2 = some (.lst (wV [.rea, .wri, if r then .sto else .sta])) := hP2 ▸ upd_same
      clear hP2
      have t12 : Same H2 H4 := Same.tr t1 t2
      refine ⟨fun σ' H5 => Same H2 H5 ∧ ∃ P3, P3 ≠ st ∧ H5 P3 = some (.lst (wV (someW o r))) ∧ σ' = [some (.ref st), some (.int (n : Int)), some (.ref F), some (.bl o), some (.bl r), some (.ref u), some (.int up), some (.int (i : Int)), some (.ref P3), v9], ?_, ?_⟩
      · refine ⟨_, rfl, _, rfl, ?_⟩
        cases o
        · refine iteF ?_
          refine ⟨_, rfl, (by show 4 ≤ sizeLine; decide), fun P4 nP4 => ?_⟩
          generalize hP4 : upd H4 P4 _ = H5
          have t4 : Same H4 H5 := hP4 ▸ Same.new nP4
          have f4 : H5 P4 = some (.lst [.str (Str.ofString "begin"), .str (Str.ofString "begin"), .str (Str.ofString "immediate"), .str (Str.ofString "exclusive")]) := hP4 ▸ upd_same
          clear hP4
          refine ⟨_, _, _, _, rfl, rfl, t4 _ _ f2, f4, (by show 3 + 4 ≤ sizeLine; decide), fun P5 m5 => ?_⟩
          have t5 := Same.tr t12 t4
          exact ⟨Same.tr t5 (same_new m5), P5, (drH.same t5).nst m5, by rw [upd_same]; cases r <;> rfl, rfl⟩
        · refine iteT ?_
          refine ⟨_, rfl, (by show 5 ≤ sizeLine; decide), fun P4 nP4 => ?_⟩
          generalize hP4 : upd H4 P4 _ = H5
          have t4 : Same H4 H5 := hP4 ▸ Same.new nP4
          have f4 : H5 P4 = some (.lst [.str (Str.ofString "commit"), .str (Str.ofString "rollback"), .str (Str.ofString "read"), .str (Str.ofString "write"), .str (Str.ofString "commit")]) := hP4 ▸ upd_same
          clear hP4
          refine ⟨_, _, _, _, rfl, rfl, t4 _ _ f2, f4, (by show 3 + 5 ≤ sizeLine; decide), fun P5 m5 => ?_⟩
          have t5 := Same.tr t12 t4
          exact ⟨Same.tr t5 (same_new m5), P5, (drH.same t5).nst m5, by rw [upd_same]; cases r <;> rfl, rfl⟩
      rintro σ' H5 ⟨t5, P3, nP3, hP3, rfl⟩
      have lsome : (wV (someW o r)).length ≤ 10 ∧ 0 < (wV (someW o r)).length := by cases o <;> cases r <;> decide
      -- word
      refine ⟨_, rfl, _, rfl, st, c, P3, ns, _, rfl, drH.same t5, hns, nP3, .inl (SqL.of hP3), lsome.2, (by omega), fun x H6 hx dr6 b6 => ?_⟩
      obtain ⟨v0, hv0, rfl⟩ := List.mem_map.mp hx
      have hu6 := b6 _ _ (t5 _ _ huH) nu
      have hF6 := b6 _ _ (t5 _ _ hFH) nF
      have hP6 := b6 _ _ hP3 nP3
      have bH6 : But st H H6 := (bH.tr' t5).trans b6
      refine ⟨fun σ' H7 => H7 = H6 ∧ ∃ v ∈ someW o r, σ' = [some (.ref st), some (.int (n : Int)), some (.ref F), some (.bl o), some (.bl r), some (.ref u), some (.int up), some (.int (i : Int)), some (.ref P3), some (.str (wS v))], ?_, ?_⟩
      · refine ⟨_, rfl, _, rfl, _, rfl, _, _, rfl, (Or.inr ⟨_, SqT.of hu6, rfl⟩), _, _, rfl, _, _, rfl, rfl, _, rfl, ?_⟩
        refine ite2 (fun hk => ?_) (fun hk => ⟨rfl, v0, hv0, rfl⟩)
        have hk2 : i < us.length := by
          have := of_decide_eq_true hk
          rw [lus] at this
          split at this <;> omega
        have hat2 : (wV us)[i]? = some (.str (wS us[i])) := by
          unfold wV
          rw [List.getElem?_map, List.getElem?_eq_getElem hk2]
          rfl
        refine ⟨_, rfl, _, rfl, _, _, _, _, rfl, rfl, SqT.of hu6, atI_nat hat2, _, rfl, _, _, rfl, .inl (SqL.of hP6), rfl, flat_words _, _, rfl, ?_⟩
        refine ite2 (fun hin => ?_) (fun hin => ⟨rfl, v0, hv0, rfl⟩)
        exact ⟨_, rfl, _, rfl, _, _, _, _, rfl, rfl, SqT.of hu6, atI_nat hat2, rfl, us[i], in_words hin, rfl⟩
      rintro σ' H7 ⟨rfl, v, hv, rfl⟩
      -- found.append
      refine ⟨_, rfl, .inl ⟨rfl, _, SqL.of hF6⟩, _, rfl, _, _, _, rfl, rfl, hF6, (by show (List.map _ sc).length < sizeLine; rw [List.length_map]; exact small6 (by omega)), ?_⟩
      have dr7 : Drw (upd H7 F (.lst (wV sc ++ [.str (wS v)]))) st c ns := by
        have nc : c ≠ F := ne_of_none dr.1 hF
        obtain ⟨hc, n', v', b', h0', hs⟩ := dr6
        exact ⟨by rw [upd_ne nc]; exact hc, n', v', b', h0', by rw [upd_ne (Ne.symm nF)]; exact hs⟩
      have bH7 : But st H (upd H7 F (.lst (wV sc ++ [.str (wS v)]))) := fun b u' e nb => by
        rw [upd_ne (ne_of_none e hF)]
        exact bH6 b u' e nb
      have hu7 : (upd H7 F (.lst (wV sc ++ [.str (wS v)]))) u = some (.tup (wV us)) := by
        rw [upd_ne (ne_of hu6 hF6 (by intro z; cases z))]
        exact hu6
      have hF7 : (upd H7 F (.lst (wV sc ++ [.str (wS v)]))) F = some (.lst (wV (sc ++ [v]))) := by
        rw [upd_same]
        unfold wV
        rw [List.map_append]
        rfl
      generalize upd H7 F (.lst (wV sc ++ [.str (wS v)])) = H8 at dr7 bH7 hu7 hF7 ⊢
      dsimp only
      refine seq_asg_gv (x := .bl (bO v o)) (Gv.and (fun Q' kk => ?_) (fun H1 s1 => Gv.or (fun Q' kk => ⟨_, rfl, kk _ (Same.rfl' _)⟩) (fun H2 s2 Q' kk => ?_))) ?_
      · refine ⟨_, rfl, (by show 2 ≤ sizeLine; decide), fun tp htp => ?_⟩
        have sx := same_new (o := .tup [.str (Str.ofString "commit"), .str (Str.ofString "rollback")]) htp
        have ex := upd_same (H := H8) (a := tp) (o := .tup [.str (Str.ofString "commit"), .str (Str.ofString "rollback")])
        refine ⟨_, _, rfl, .inr (SqT.of ex), rfl, rfl, ?_⟩
        rw [in_en v]
        exact kk _ sx
      · refine ⟨_, rfl, (by show 3 ≤ sizeLine; decide), fun tp htp => ?_⟩
        have sx := same_new (o := .tup [.str (Str.ofString "begin"), .str (Str.ofString "immediate"), .str (Str.ofString "exclusive")]) htp
        have ex := upd_same (H := H2) (a := tp) (o := .tup [.str (Str.ofString "begin"), .str (Str.ofString "immediate"), .str (Str.ofString "exclusive")])
        refine ⟨_, _, rfl, .inr (SqT.of ex), rfl, rfl, ?_⟩
        rw [in_op v]
        exact kk _ sx
      intro H12 s12
      dsimp only [gName]
      refine asg_gv (x := .bl (bR v r)) (Gv.and (fun Q' kk => ?_) (fun H1 s1 => Gv.or (fun Q' kk => ⟨_, rfl, kk _ (Same.rfl' _)⟩) (fun H2 s2 Q' kk => ?_))) ?_
      · refine ⟨_, rfl, rfl, ?_⟩
        rw [show decide (V.str (wS v) = V.str (Str.ofString "stop")) = decide (v = .sto) from eqW v .sto]
        exact kk _ (Same.rfl' _)
      · refine ⟨_, rfl, rfl, ?_⟩
        rw [show decide (V.str (wS v) = V.str (Str.ofString "start")) = decide (v = .sta) from eqW v .sta]
        exact kk _ (Same.rfl' _)
      intro H13 s13
      have s14 : Same H8 H13 := Same.tr s12 s13
      have hfl : flg (sc ++ [v]) (i + 1) = (bO v o, bR v r) := by
        have := flg_succ (sc := sc ++ [v]) (p := i) (v := v) (by rw [← hsc]; simp)
        rw [this, flg_app sc [v] (by omega), ho, hrd, bO_is, bR_is]
      refine ⟨bH7.tr' s14, dr7.same s14, s14 _ _ hu7, sc ++ [v], some (.int (i : Int)), some (.ref P3), some (.str (wS v)), by rw [List.length_append, hsc]; rfl, hok.snoc (by rw [hsc, ho, hrd]; exact some_ok hv), s14 _ _ hF7, ?_⟩
      rw [hfl]
      rfl
    · rintro σ H2 ⟨bH, drH, huH, sc, v7, v8, v9, hsc, hok, hFH, rfl⟩
      refine ⟨_, rfl, _, _, rfl, SqL.of hFH, fun q oq hq hd => ?_⟩
      have nq := drH.nst hq
      exact k sc q _ ⟨by omega, hok⟩ (bH.free nq hq) ⟨oq, upd_same, hd⟩ (drH.new hq) (bH.new hq)
/-- a script, new since H, its own object known -/
def ZR (H H' : Hp) (sc : List Wd) (v : V) : Prop := ∃ a, v = .ref a ∧ H a = none ∧ FzT H' a (wV sc)
theorem _root_.My.FzT.ne {H : Hp} {a p : Addr} {xs : List V} {ys : List V} (h : FzT H a xs) (e : H p = some (.lst ys)) : a ≠ p := by
  obtain ⟨o, h, _⟩ := h
  exact ne_of h e fun z => by cases z
theorem ZR.but {H H1 H2 : Hp} {sc : List Wd} {v : V} {p : Addr} {ys : List V} (h : ZR H H1 sc v) (e : H1 p = some (.lst ys)) (b : But p H1 H2) : ZR H H2 sc v := by
  obtain ⟨a, rfl, h1, h2⟩ := h
  exact ⟨a, rfl, h1, h2.but b (h2.ne e)⟩
theorem ZR.same {H H1 H2 : Hp} {sc : List Wd} {v : V} (h : ZR H H1 sc v) (b : Same H1 H2) : ZR H H2 sc v := by
  obtain ⟨a, rfl, h1, h2⟩ := h
  exact ⟨a, rfl, h1, h2.same b⟩
theorem _root_.My.Drw.lst {H : Hp} {st c : Addr} {ns : List Int} (h : Drw H st c ns) : ∃ ys, H st = some (.lst ys) := by
  obtain ⟨_, _, _, _, _, h⟩ := h
  exact ⟨_, h⟩
def spScriptsF : Sp := fun vs H Q _ => ∃ (st c : Addr) (ns : List Int) (most n : Nat), vs = [.ref st, .int (most : Int), .int (n : Int)] ∧ Drw H st c ns ∧ ns.length ≤ 63 ∧ n ≤ 8 ∧ 0 < most ∧ most ≤ 4 ∧
  ∀ (ss : List (List Wd)) (q : Addr) (vs : List V) (H' : Hp), 1 ≤ ss.length → ss.length ≤ most → (∀ sc ∈ ss, okScr sc) → H q = none → H' q = some (.tup vs) → Paired (ZR H H') ss vs → Drw H' st c ns → But st H H' → Q (.ref q) H'
theorem pr_scriptsF (D : Df K mg "_law_scripts" sScripts ["_law_state", "_law_most", "_law_many"]) (T2 : Ty mg) (TR : mg "range" = none) (PT : Pr P w K mg base 2 "_law_take" ["_law_state", "_law_many"] spTake) (PS : Pr P w K mg base 4 "_law_script" ["_law_state", "_law_many"] spScriptF) :
    Pr P w K mg base 5 "_law_scripts" ["_law_state", "_law_most", "_law_many"] spScriptsF := by
  refine D.pr scScripts (fun vs H Q E h => ?_) (fun f cdv A outer s H vs Q E hr h => ?_)
  · obtain ⟨st, c, ns, most, n, rfl, _⟩ := h
    rfl
  · obtain ⟨st, c, ns, most, n, rfl, dr, hns, hn8, hm0, hm4, k⟩ := h
    have nd := scScripts.nd
    have hr2 := hr.mono (show 2 ≤ 4 by decide)
    refine ⟨_, (pss_one (ps_ret (pe_callTy call_tuple_of (by rfl) T2.tuple (by decide +kernel) (pa_cons (pe_lc (own := [("_law_k", 3)]) (g := gName 3) (tt := tYes) (by rfl) nd (pi_range1 rfl TR (pa_cons (pe_op op_add pe_int (pe_callP PT hr2 (by rfl) (pa_cons (pv 0) (pa_cons (pv 1) pa_nil)))) pa_nil))
  (blkOk_by (own := [("_law_k", 3)]) (N := nScripts) (sc := defScope sScripts) (by decide +kernel))
  (fun _ _ _ _ _ => pg_name (i := 3) nd rfl (Or.inl rfl) (Or.inr rfl)) (fun _ _ _ _ _ => pts_nil)
  (fun _ _ _ _ _ => (pe_callP PS hr (by rfl) (pa_cons (pv 0) (pa_cons (pv 2) pa_nil))))) pa_nil)))), ?_⟩
    refine ⟨_, rfl, _, rfl, st, c, ns, most, rfl, dr, hns, (by omega), (by omega), fun d H1 hd0 hd1 dr1 b1 => ?_⟩
    refine ⟨_, _, rfl, rfl, _, rfl, (by omega), (by omega), fun Dl hD => ?_⟩
    have nDs : Dl ≠ st := dr1.nst hD
    refine lc_range (lo := 0) (n := ((1 : Int) + d).toNat) (fun i H2 => But st H1 H2 ∧ Drw H2 st c ns ∧ ∃ (ss : List (List Wd)) (vs : List V), ss.length = i ∧ (∀ sc ∈ ss, okScr sc) ∧ H2 Dl = some (.lst vs) ∧ Paired (ZR H H2) ss vs) ?_ ?_ ?_
    · exact ⟨(But.refl st H1).new hD, dr1.new hD, [], [], rfl, (fun _ h => nomatch h), upd_same, .nil⟩
    · rintro i H2 hi ⟨b2, dr2, ss, vs, ls, oks, hD2, pz⟩
      refine ⟨rfl, ?_⟩
      refine ⟨_, rfl, _, rfl, st, c, ns, n, rfl, dr2, hns, hn8, fun sc q H3 hsc nq hq dr3 b3 => ?_⟩
      obtain ⟨ys, hst2⟩ := dr2.lst
      have hD3 := b3 _ _ hD2 nDs
      have nqs : q ≠ st := dr2.nst nq
      have bD : But Dl H3 (upd H3 Dl (.lst (vs ++ [.ref q]))) := (But.refl Dl H3).upd
      refine ⟨vs, hD3, ?_, ?_, ?_, ss ++ [sc], vs ++ [.ref q], by rw [List.length_append, ls]; rfl, ?_, upd_same, ?_⟩
      · have := paired_len pz
        exact small6 (by omega)
      · intro b u e nb
        rw [upd_ne (ne_of_none e hD)]
        exact b3 _ _ (b2 _ _ e nb) nb
      · obtain ⟨hc, n', v', b', h0', hs⟩ := dr3
        exact ⟨by rw [upd_ne (ne_of_none dr1.1 hD)]; exact hc, n', v', b', h0', by rw [upd_ne (Ne.symm nDs)]; exact hs⟩
      · intro x hx
        rcases List.mem_append.mp hx with h | h
        · exact oks x h
        · rw [List.mem_singleton.mp h]
          exact hsc
      · refine paired_snoc (paired_imp (fun s v z => (z.but hst2 b3).but hD3 bD) pz) ⟨q, rfl, ?_, hq.but bD (hq.ne hD3)⟩
        exact b1.free nqs (b2.free nqs nq)
    · rintro H2 ⟨b2, dr2, ss, vs, ls, oks, hD2, pz⟩
      refine ⟨_, _, rfl, .inl ⟨SqL.of hD2, fun q hq => ?_⟩⟩
      have nqs : q ≠ st := dr2.nst hq
      exact k ss q vs _ (by omega) (by omega) oks (b1.free nqs (b2.free nqs hq)) upd_same (paired_imp (fun s v z => z.same (same_new hq)) pz) (dr2.new hq) ((b1.trans b2).new hq)
/-- what holds of the words at a turn -/
def SixI (i : Nat) (sc : List Wd) : Prop := okAll sc ∧ (i < 3 → sc.length = 3 * i ∧ flg sc sc.length = (false, false)) ∧ (i = 3 → sc.length = 8)
theorem flg_snoc (sc : List Wd) (v : Wd) : flg (sc ++ [v]) (sc ++ [v]).length = (opB v (flg sc sc.length).1, rdB v (flg sc sc.length).2) := by
  rw [List.length_append]
  show (match (sc ++ [v])[sc.length]? with | some v' => (opB v' (flg (sc ++ [v]) sc.length).1, rdB v' (flg (sc ++ [v]) sc.length).2) | none => flg (sc ++ [v]) sc.length) = _
  rw [List.getElem?_append_right (Nat.le_refl _), Nat.sub_self, flg_app sc [v] (Nat.le_refl _)]
  rfl
theorem SixI.two {i : Nat} {sc : List Wd} {x : Wd} (h : SixI i sc) (hi : i < 3) (hx : x = .rea ∨ x = .wri) : okAll (sc ++ [Wd.beg] ++ [x]) ∧ flg (sc ++ [Wd.beg] ++ [x]) (sc ++ [Wd.beg] ++ [x]).length = (true, false) := by
  obtain ⟨h1, h2, _⟩ := h
  obtain ⟨_, h3⟩ := h2 hi
  have a1 : okAll (sc ++ [Wd.beg]) := h1.snoc (by rw [h3]; rfl)
  have f1 : flg (sc ++ [Wd.beg]) (sc ++ [Wd.beg]).length = (true, false) := by rw [flg_snoc, h3]; rfl
  refine ⟨a1.snoc ?_, ?_⟩
  · rw [f1]
    rcases hx with rfl | rfl <;> rfl
  · rw [flg_snoc, f1]
    rcases hx with rfl | rfl <;> rfl
theorem SixI.three {i : Nat} {sc : List Wd} {x y : Wd} (h : SixI i sc) (hi : i < 2) (hx : x = .rea ∨ x = .wri) (hy : y = .com ∨ y = .rol) : SixI (i + 1) (sc ++ [Wd.beg] ++ [x] ++ [y]) := by
  obtain ⟨a, f⟩ := h.two (by omega) hx
  obtain ⟨l, _⟩ := h.2.1 (by omega)
  refine ⟨a.snoc ?_, fun _ => ⟨?_, ?_⟩, fun z => by omega⟩
  · rw [f]
    rcases hy with rfl | rfl <;> rfl
  · simp only [List.length_append, List.length_cons, List.length_nil]
    omega
  · rw [flg_snoc, f]
    rcases hy with rfl | rfl <;> rfl
theorem SixI.last {sc : List Wd} {x : Wd} (h : SixI 2 sc) (hx : x = .rea ∨ x = .wri) : SixI 3 (sc ++ [Wd.beg] ++ [x]) := by
  obtain ⟨a, f⟩ := h.two (by omega) hx
  obtain ⟨l, _⟩ := h.2.1 (by omega)
  refine ⟨a, fun z => by omega, fun _ => ?_⟩
  simp only [List.length_append, List.length_cons, List.length_nil]
  omega
def spSix : Sp := fun vs H Q _ => ∃ (st c : Addr) (ns : List Int), vs = [.ref st] ∧ Drw H st c ns ∧ ns.length ≤ 63 ∧
  ∀ (ss : List (List Wd)) (q : Addr) (vs : List V) (H' : Hp), ss.length = 2 → (∀ sc ∈ ss, okScr sc) → H q = none → H' q = some (.tup vs) → Paired (ZR H H') ss vs → Drw H' st c ns → But st H H' → Q (.ref q) H'
theorem pr_six (D : Df K mg "_law_six" sSix ["_law_state"]) (T : Tx mg) (T2 : Ty mg) (TR : mg "range" = none) (PO : Pr P w K mg base 3 "_law_one" ["_law_state", "_law_things"] (spOne K)) :
    Pr P w K mg base 4 "_law_six" ["_law_state"] spSix := by
  refine D.pr scSix (fun vs H Q E h => ?_) (fun f cdv A outer s H vs Q E hr h => ?_)
  · obtain ⟨st, c, ns, rfl, _⟩ := h
    rfl
  · obtain ⟨st, c, ns, rfl, dr, hns, k⟩ := h
    have nd := scSix.nd
    refine ⟨_, (pss_cons (ps_asg (pe_lst pa_nil) (pg_name (i := 1) nd rfl (Or.inl rfl)))
      (pss_cons (ps_for PassesOwn.never rfl (pi_range1 rfl TR (pa_cons pe_int pa_nil)) (pg_name (i := 2) nd rfl (Or.inl rfl))
        (pss_cons (ps_asg (pe_lst pa_nil) (pg_name (i := 3) nd rfl (Or.inl rfl)))
        (pss_cons (ps_for PassesOwn.never rfl (pi_range1 rfl TR (pa_cons pe_int pa_nil)) (pg_name (i := 4) nd rfl (Or.inl rfl))
          (pss_cons (ps_asg (pe_op op_cat (pv 3) (pe_lst (pa_cons pe_str (pa_cons (pe_callP PO hr (by rfl) (pa_cons (pv 0) (pa_cons (pe_lst (pa_cons pe_str (pa_cons pe_str (pa_cons pe_str pa_nil)))) pa_nil))) pa_nil)))) (pg_name (i := 3) nd rfl (Or.inl rfl)))
          (pss_one (ps_asg (pe_op op_cat (pv 3) (pe_op op_rep (pe_lst (pa_cons (pe_callP PO hr (by rfl) (pa_cons (pv 0) (pa_cons (pe_lst (pa_cons pe_str (pa_cons pe_str (pa_cons pe_str pa_nil)))) pa_nil))) pa_nil)) (pe_callTy call_int1 (by rfl) T.int (by decide +kernel) (pa_cons (pe_cmpR op_lt (pv 4) pe_int (nomark _)) pa_nil)))) (pg_name (i := 3) nd rfl (Or.inl rfl))))))
        (pss_one (ps_expr (pe_bm PySem.F.plainAttrs_list PySem.F.slot_list_append PySem.F.type_list_append mt_append (pv 1) (pa_cons (pe_callTy call_tupleF (by rfl) T2.tuple (by decide +kernel) (pa_cons (pv 3) pa_nil)) pa_nil)))))))
      (pss_one (ps_ret (pe_callTy call_tuple_of (by rfl) T2.tuple (by decide +kernel) (pa_cons (pv 1) pa_nil)))))), ?_⟩
    refine ⟨(by show 0 ≤ sizeLine; decide), fun F nF => ?_⟩
    generalize hF : upd H F _ = H1
    have sF : Same H H1 := hF ▸ Same.new nF
    have eF : H1 F = some (.lst []) := hF ▸ upd_same
    clear hF
    have nFs : F ≠ st := dr.nst nF
    refine ⟨2, rfl, by decide, by decide, ?_⟩
    refine for_range (lo := 0) (n := 2) (fun i σ H2 => ∃ (o2 o3 o4 : Option V) (ss : List (List Wd)) (vs : List V), σ = [some (.ref st), some (.ref F), o2, o3, o4] ∧ But st H H2 ∧ Drw H2 st c ns ∧ ss.length = i ∧ (∀ sc ∈ ss, okScr sc) ∧ H2 F = some (.lst vs) ∧ Paired (ZR H H2) ss vs) ?_ ?_ ?_
    · exact ⟨_, _, _, [], [], rfl, Same.but sF, dr.same sF, rfl, (fun _ h => nomatch h), eF, .nil⟩
    · rintro i σ H2 hi ⟨o2, o3, o4, ss, vs, rfl, b2, dr2, ls, oks, hF2, pz⟩
      refine ⟨(by show 0 ≤ sizeLine; decide), fun W0 nW0 => ?_⟩
      generalize hW0 : upd H2 W0 _ = H3
      have sW0 : Same H2 H3 := hW0 ▸ Same.new nW0
      have eW0 : H3 W0 = some (.lst []) := hW0 ▸ upd_same
      clear hW0
      have dr3 := dr2.same sW0
      refine ⟨3, rfl, by decide, by decide, ?_⟩
      refine for_range (lo := 0) (n := 3) (fun j σ H4 => ∃ (o4 : Option V) (W1 : Addr) (sc : List Wd), σ = [some (.ref st), some (.ref F), some (.int (0 + (i : Int))), some (.ref W1), o4] ∧ But st H3 H4 ∧ Drw H4 st c ns ∧ H2 W1 = none ∧ H4 W1 = some (.lst (wV sc)) ∧ SixI j sc) ?_ ?_ ?_
      · exact ⟨_, W0, [], rfl, But.refl st H3, dr3, nW0, eW0, (fun n v e => by simp at e), (fun _ => ⟨rfl, rfl⟩), fun z => by cases z⟩
      · rintro j σ H4 hj ⟨o4, W1, sc, rfl, b4, dr4, nW1, hW4, six⟩
        have hj3 : j < 3 := hj
        -- words + ["begin", one(..)]
        refine ⟨_, rfl, _, rfl, (by show 3 ≤ sizeLine; decide), fun N1 nN1 => ?_⟩
        generalize hN1 : upd H4 N1 _ = H5
        have sN1 : Same H4 H5 := hN1 ▸ Same.new nN1
        have eN1 : H5 N1 = some (.lst (wV [.rea, .wri, .wri])) := hN1 ▸ upd_same
        clear hN1
        have dr5 := dr4.same sN1
        refine ⟨st, c, N1, ns, wV [.rea, .wri, .wri], rfl, dr5, hns, dr4.nst nN1, .inl (SqL.of eN1), by decide, by decide, fun x H6 hx dr6 b6 => ?_⟩
        obtain ⟨xw, hxw, rfl⟩ : ∃ xw, (xw = Wd.rea ∨ xw = Wd.wri) ∧ x = .str (wS xw) := by
          obtain ⟨xw, h1, rfl⟩ := List.mem_map.mp hx
          refine ⟨xw, ?_, rfl⟩
          simp only [List.mem_cons, List.not_mem_nil, or_false] at h1
          rcases h1 with rfl | rfl | rfl
          · exact .inl rfl
          · exact .inr rfl
          · exact .inr rfl
        have b46 : But st H4 H6 := (Same.but sN1).trans b6
        refine ⟨(by show 2 ≤ sizeLine; decide), fun N2 nN2 => ?_⟩
        generalize hN2 : upd H6 N2 _ = H7
        have sN2 : Same H6 H7 := hN2 ▸ Same.new nN2
        have eN2 : H7 N2 = some (.lst (wV [.beg, xw])) := hN2 ▸ upd_same
        clear hN2
        have b47 := b46.tr' sN2
        have nW1s : W1 ≠ st := dr2.nst nW1
        have hW7 := b47 _ _ hW4 nW1s
        have lsc : sc.length ≤ 8 := by
          have := six.2.1 hj3
          omega
        have lw : (wV sc).length = sc.length := List.length_map ..
        refine ⟨W1, N2, wV sc, wV [.beg, xw], rfl, rfl, hW7, eN2, ?_, fun N3 nN3 => ?_⟩
        · refine Nat.le_of_lt (small6 ?_)
          rw [lw]
          show sc.length + 2 < _
          omega
        generalize hN3 : upd H7 N3 _ = H8
        have sN3 : Same H7 H8 := hN3 ▸ Same.new nN3
        have eN3 : H8 N3 = some (.lst (wV (sc ++ [Wd.beg] ++ [xw]))) := by
          rw [← hN3, upd_same]
          unfold wV
          rw [List.append_assoc, List.map_append]
          rfl
        clear hN3
        have b48 := b47.tr' sN3
        have dr7 := dr6.same sN2
        have dr8 := dr7.same sN3
        have nN3s : N3 ≠ st := dr7.nst nN3
        have nN3H2 : H2 N3 = none := Same.free sW0 (b4.free nN3s (b47.free nN3s nN3))
        -- + [one(..)] * int(nth < 2)
        refine ⟨_, rfl, _, rfl, (by show 3 ≤ sizeLine; decide), fun N4 nN4 => ?_⟩
        generalize hN4 : upd H8 N4 _ = H9
        have sN4 : Same H8 H9 := hN4 ▸ Same.new nN4
        have eN4 : H9 N4 = some (.lst (wV [.com, .com, .rol])) := hN4 ▸ upd_same
        clear hN4
        have dr9 := dr8.same sN4
        refine ⟨st, c, N4, ns, wV [.com, .com, .rol], rfl, dr9, hns, dr8.nst nN4, .inl (SqL.of eN4), by decide, by decide, fun y HA hy drA bA => ?_⟩
        obtain ⟨yw, hyw, rfl⟩ : ∃ yw, (yw = Wd.com ∨ yw = Wd.rol) ∧ y = .str (wS yw) := by
          obtain ⟨yw, h1, rfl⟩ := List.mem_map.mp hy
          refine ⟨yw, ?_, rfl⟩
          simp only [List.mem_cons, List.not_mem_nil, or_false] at h1
          rcases h1 with rfl | rfl | rfl
          · exact .inl rfl
          · exact .inl rfl
          · exact .inr rfl
        have b8A : But st H8 HA := (Same.but sN4).trans bA
        refine ⟨(by show 1 ≤ sizeLine; decide), fun N5 nN5 => ?_⟩
        generalize hN5 : upd HA N5 _ = HB
        have sN5 : Same HA HB := hN5 ▸ Same.new nN5
        have eN5 : HB N5 = some (.lst [.str (wS yw)]) := hN5 ▸ upd_same
        clear hN5
        have drB := drA.same sN5
        refine ⟨_, rfl, _, _, rfl, rfl, .inr ⟨_, rfl, ?_⟩⟩
        refine ⟨N5, _, _, rfl, rfl, eN5, ?_, ?_, ?_, fun N6 nN6 => ?_⟩
        · cases decide ((0 : Int) + (j : Int) < 2) <;> decide
        · cases decide ((0 : Int) + (j : Int) < 2) <;> decide
        · cases decide ((0 : Int) + (j : Int) < 2)
          · show 1 * 0 ≤ sizeLine
            decide
          · show 1 * 1 ≤ sizeLine
            decide
        generalize hN6 : upd HB N6 _ = HC
        have sN6 : Same HB HC := hN6 ▸ Same.new nN6
        have eN6 : HC N6 = some (.lst (wV (if j < 2 then [yw] else []))) := by
          rw [← hN6, upd_same]
          by_cases h2 : j < 2
          · rw [if_pos h2, decide_eq_true (show (0 : Int) + (j : Int) < 2 by omega)]
            rfl
          · rw [if_neg h2, decide_eq_false (show ¬ (0 : Int) + (j : Int) < 2 by omega)]
            rfl
        clear hN6
        have drC := drB.same sN6
        have b8C : But st H8 HC := (b8A.tr' sN5).tr' sN6
        have hN3C := b8C _ _ eN3 nN3s
        refine ⟨N3, N6, _, _, rfl, rfl, hN3C, eN6, ?_, fun N7 nN7 => ?_⟩
        · refine Nat.le_of_lt (small6 ?_)
          unfold wV
          rw [List.length_map, List.length_map, List.length_append, List.length_append]
          have : (if j < 2 then [yw] else []).length ≤ 1 := by
            split
            · exact Nat.le_refl _
            · exact Nat.zero_le _
          show sc.length + 1 + 1 + _ < _
          omega
        generalize hN7 : upd HC N7 _ = HD
        have sN7 : Same HC HD := hN7 ▸ Same.new nN7
        have eN7 : HD N7 = some (.lst (wV (sc ++ [Wd.beg] ++ [xw] ++ (if j < 2 then [yw] else [])))) := by
          rw [← hN7, upd_same]
          unfold wV
          rw [List.map_append (l₂ := if j < 2 then [yw] else [])]
        clear hN7
        have nN7s : N7 ≠ st := drC.nst nN7
        have b4D : But st H4 HD := (b48.trans b8C).tr' sN7
        refine ⟨_, N7, _, rfl, b4.trans b4D, drC.same sN7, ?_, eN7, ?_⟩
        · exact Same.free sW0 (b4.free nN7s (b48.free nN7s (b8C.free nN7s nN7)))
        · by_cases h2 : j < 2
          · rw [if_pos h2]
            exact six.three h2 hxw hyw
          · rw [if_neg h2, List.append_nil]
            obtain rfl : j = 2 := by omega
            exact six.last hxw
      · rintro σ H4 ⟨o4, W1, sc, rfl, b4, dr4, nW1, hW4, six⟩
        have b24 : But st H2 H4 := (Same.but sW0).trans b4
        have hF4 := b24 _ _ hF2 nFs
        obtain ⟨ys, hst2⟩ := dr2.lst
        refine ⟨_, rfl, .inl ⟨rfl, _, SqL.of hF4⟩, ?_⟩
        refine ⟨_, rfl, _, _, rfl, SqL.of hW4, fun q oq hq hd => ?_⟩
        have nqs : q ≠ st := dr4.nst hq
        generalize hH5 : upd H4 q _ = H5
        have s5 : Same H4 H5 := hH5 ▸ Same.new hq
        have eq5 : FzT H5 q (wV sc) := ⟨oq, hH5 ▸ upd_same, hd⟩
        clear hH5
        have hF5 := s5 _ _ hF4
        have bF : But F H5 (upd H5 F (.lst (vs ++ [.ref q]))) := (But.refl F H5).upd
        refine ⟨F, vs, .ref q, rfl, rfl, hF5, ?_, ?_⟩
        · have := paired_len pz
          have : i < 2 := hi
          exact small6 (by omega)
        refine ⟨_, _, _, ss ++ [sc], vs ++ [.ref q], rfl, ?_, ?_, by rw [List.length_append, ls]; rfl, ?_, upd_same, ?_⟩
        · intro b u e nb
          rw [upd_ne (ne_of_none e nF)]
          exact s5 _ _ (b24 _ _ (b2 _ _ e nb) nb)
        · obtain ⟨hc, n', v', b', h0', hs⟩ := dr4.same s5
          exact ⟨by rw [upd_ne (ne_of_none dr.1 nF)]; exact hc, n', v', b', h0', by rw [upd_ne (Ne.symm nFs)]; exact hs⟩
        · intro x hx
          rcases List.mem_append.mp hx with h | h
          · exact oks x h
          · rw [List.mem_singleton.mp h]
            exact ⟨Nat.le_of_eq (six.2.2 rfl), six.1⟩
        · refine paired_snoc (paired_imp (fun s v z => ((z.but hst2 b24).same s5).but hF5 bF) pz) ⟨q, rfl, ?_, eq5.but bF (eq5.ne hF5)⟩
          exact b2.free nqs (b24.free nqs hq)
    · rintro σ H2 ⟨o2, o3, o4, ss, vs, rfl, b2, dr2, ls, oks, hF2, pz⟩
      refine ⟨_, rfl, _, _, rfl, .inl ⟨SqL.of hF2, fun q hq => ?_⟩⟩
      have nqs : q ≠ st := dr2.nst hq
      exact k ss q vs _ ls oks (b2.free nqs hq) upd_same (paired_imp (fun s v z => z.same (same_new hq)) pz) (dr2.new hq) (b2.new hq)
end
end C83

set_option Elab.async false
set_option maxRecDepth 100000
set_option maxHeartbeats 4000000
set_option linter.all false
namespace C83
open PySem L2 My M78
open M83
abbrev sLaw : Stmt := top 49
abbrev nLaw : List Str := ["_law_script_here", "_law_state", "_law_turn", "_law_most", "_law_many", "_law_under", "_law_some", "_law_handed_here", "_law_due", "_law_kept", "_law_again", "_law_found", "_law_one_here"]
theorem scLaw : FnScope nLaw ["_law_script_here"] (defScope sLaw) := ⟨rfl, rfl, rfl, by decide +kernel, rfl, by decide +kernel, by decide +kernel⟩
/-- may be shown: depth at most n, weight at most W -/
def Sh (n W : Nat) (d : PyData) : Prop := d.showable = true ∧ d.hasDict = false ∧ d.leavesShort 8 = true ∧ d.depth ≤ n ∧ d.weight ≤ W
theorem Sh.all {n W : Nat} : ∀ {ds : List PyData}, (∀ x ∈ ds, Sh n W x) → PyData.showableAll ds = true ∧ PyData.hasDictAll ds = false ∧ PyData.leavesShortAll 8 ds = true ∧ PyData.depthAll ds ≤ n ∧ PyData.weightAll ds ≤ ds.length * (W + 1)
  | [], _ => ⟨rfl, rfl, rfl, Nat.zero_le _, Nat.zero_le _⟩
  | x :: r, h => by
    obtain ⟨a1, a2, a3, a4, a5⟩ := h x (List.mem_cons_self ..)
    obtain ⟨b1, b2, b3, b4, b5⟩ := Sh.all (ds := r) fun y hy => h y (List.mem_cons_of_mem _ hy)
    refine ⟨?_, ?_, ?_, ?_, ?_⟩
    · simp only [PyData.showableAll, a1, b1, Bool.and_self]
    · simp only [PyData.hasDictAll, a2, b2, Bool.or_self]
    · simp only [PyData.leavesShortAll, a3, b3, Bool.and_self]
    · simp only [PyData.depthAll]
      omega
    · simp only [PyData.weightAll, List.length_cons, Nat.add_mul, Nat.one_mul]
      omega
theorem Sh.sq {n W L : Nat} {d : PyData} {ds : List PyData} (s : Sq2 d ds) (hl : ds.length ≤ L) (h : ∀ x ∈ ds, Sh n W x) : Sh (n + 1) (L * (W + 1)) d := by
  obtain ⟨b1, b2, b3, b4, b5⟩ := Sh.all h
  have b6 : ds.length * (W + 1) ≤ L * (W + 1) := Nat.mul_le_mul_right _ hl
  rcases s with rfl | rfl
  · refine ⟨?_, ?_, ?_, ?_, ?_⟩
    · simpa only [PyData.showable] using b1
    · simpa only [PyData.hasDict] using b2
    · simpa only [PyData.leavesShort] using b3
    · simp only [PyData.depth]
      omega
    · simp only [PyData.weight]
      omega
  · refine ⟨?_, ?_, ?_, ?_, ?_⟩
    · simpa only [PyData.showable] using b1
    · simpa only [PyData.hasDict] using b2
    · simpa only [PyData.leavesShort] using b3
    · simp only [PyData.depth]
      omega
    · simp only [PyData.weight]
      omega
theorem Sh.word (v : Wd) : Sh 0 9 (.str (wS v)) := by cases v <;> exact ⟨rfl, rfl, by decide +kernel, by decide, by decide +kernel⟩
theorem Sh.bool (b : Bool) : Sh 0 9 (.bool b) := by cases b <;> exact ⟨rfl, rfl, by decide +kernel, by decide, by decide +kernel⟩
theorem Sh.int {i : Int} (h0 : 0 ≤ i) (h8 : i ≤ 8) : Sh 0 9 (.int i) := by
  have : i = 0 ∨ i = 1 ∨ i = 2 ∨ i = 3 ∨ i = 4 ∨ i = 5 ∨ i = 6 ∨ i = 7 ∨ i = 8 := by omega
  rcases this with rfl | rfl | rfl | rfl | rfl | rfl | rfl | rfl | rfl <;> exact ⟨by decide +kernel, rfl, by decide +kernel, by decide, by decide +kernel⟩
theorem Sh.repr {K : PySem.W.Frag} {m a : Addr} {H : Hp} {d : PyData} {n W : Nat} {Q : VK} (h : Sh n W d) (hn : n ≤ 60) (hW : W ≤ 1000) (ha : At m H (.ref a) d) (q : Q (.str d.shown) H) : rRepr K [.ref a] H Q := by
  obtain ⟨a1, a2, a3, a4, a5⟩ := h
  refine ⟨a, d, rfl, ha.dp, a1, a2, by omega, ?_, q⟩
  have := PyData.shown_le 8 (by decide) d a3
  exact Nat.le_of_lt (small6 (by omega))
theorem paired_mem {α β : Type} {R : α → β → Prop} {xs : List α} {ys : List β} {y : β} (h : Paired R xs ys) (hy : y ∈ ys) : ∃ x ∈ xs, R x y := by
  obtain ⟨i, hi, e⟩ := List.getElem_of_mem hy
  obtain ⟨x, e1, r⟩ := paired_get h (i := i) (y := y) (by rw [List.getElem?_eq_getElem hi, e])
  exact ⟨x, List.mem_of_getElem? e1, r⟩
theorem ScIn.sh {ss : List (List Wd)} {d : PyData} (h : ScIn ss d) (l4 : ss.length ≤ 4) (ok : ∀ sc ∈ ss, okScr sc) : Sh 2 324 d := by
  obtain ⟨ds, s, p⟩ := h
  refine Sh.sq (n := 1) (W := 80) (L := 4) s (by rw [← paired_len p]; exact l4) fun x hx => ?_
  obtain ⟨sc, hsc, sx⟩ := paired_mem p hx
  refine Sh.sq (n := 0) (W := 9) (L := 8) sx ?_ fun y hy => ?_
  · unfold scE
    rw [List.length_map]
    exact (ok sc hsc).1
  · obtain ⟨v, _, rfl⟩ := List.mem_map.mp hy
    exact Sh.word v
/-! what was handed -/
theorem Hnd.tup {ds : List PyData} {d : PyData} (h : Hnd (.tuple ds) d) : ∃ es, Sq2 d es ∧ HndAll ds es := by
  cases h with
  | leaf l => cases l
  | seq s s' q =>
    rcases s with z | z
    · cases z
    · cases z
      exact ⟨_, s', q⟩
theorem Hnd.leaf_eq {d d' : PyData} (h : Hnd d d') (l : lt2 d = false) : d' = d := by
  cases h with
  | leaf _ => rfl
  | seq s s' q =>
    rcases s with rfl | rfl <;> cases l
theorem HndAll.words : ∀ {sc : List Wd} {es : List PyData}, HndAll (scE sc) es → es = scE sc
  | [], _, .nil => rfl
  | v :: r, _, .cons h q => by
    rw [Hnd.leaf_eq h rfl, HndAll.words (sc := r) q]
    rfl
theorem HndAll.scripts : ∀ {ss : List (List Wd)} {es : List PyData}, HndAll (ss.map fun sc => .tuple (scE sc)) es → Paired (fun sc e => Sq2 e (scE sc)) ss es
  | [], _, .nil => .nil
  | sc :: r, _, .cons h q => by
    obtain ⟨es, s, a⟩ := h.tup
    rw [a.words] at s
    exact .cons s (HndAll.scripts (ss := r) q)
theorem Hnd.scripts {ss : List (List Wd)} {d : PyData} (h : Hnd (scD ss) d) : ScIn ss d := by
  obtain ⟨es, s, a⟩ := Hnd.tup (ds := ss.map fun sc => .tuple (scE sc)) h
  exact ⟨es, s, a.scripts⟩
theorem lev_row (r : Row) : Lev 1 (rowD r) := .tup (by show 4 ≤ 5000000; decide) fun x hx => by
  simp only [List.mem_cons, List.not_mem_nil, or_false] at hx
  rcases hx with rfl | rfl | rfl | rfl
  · exact .int _ _
  · exact .bl _ _
  · exact .bl _ _
  · exact .int _ _
theorem lev_state {xs : List Row} (h : xs.length ≤ 4) : Lev 2 (stD xs) := .tup (by rw [List.length_map]; omega) fun x hx => by
  obtain ⟨r, _, rfl⟩ := List.mem_map.mp hx
  exact lev_row r
theorem lev_scripts {ss : List (List Wd)} (h : ss.length ≤ 4) (ok : ∀ sc ∈ ss, okScr sc) : Lev 2 (scD ss) := .tup (by rw [List.length_map]; omega) fun x hx => by
  obtain ⟨sc, hsc, rfl⟩ := List.mem_map.mp hx
  have := (ok sc hsc).1
  refine .tup (by rw [List.length_map]; omega) fun y hy => ?_
  obtain ⟨v, _, rfl⟩ := List.mem_map.mp hy
  exact .str _ _

theorem ne_self_if {x : V} {T F : Prop} (h : F) : if (!decide (x = x)) = true then T else F := by
  rw [decide_eq_true rfl]
  exact h
structure Tw (mg : Str → Option Value) : Prop where
  range : mg "range" = none
  repr : mg "repr" = none
  sum : mg "sum" = none
theorem cnt_eqv (sc : List Wd) : ((scE sc).countP fun z => PyData.eqv z (.str (wS .beg))) = cnt sc := by
  unfold scE cnt
  rw [List.countP_map]
  refine List.countP_congr fun v _ => ?_
  cases v <;> decide +kernel
theorem plain_words : ∀ sc : List Wd, PyData.plainAll (scE sc) = true
  | [] => rfl
  | v :: r => by
    show (PyData.plain (.str (wS v)) && PyData.plainAll (scE r)) = true
    rw [plain_words r]
    rfl
theorem sum_cnt : ∀ ss : List (List Wd), (ss.map fun sc => ((cnt sc : Nat) : Int)).sum = (((ss.map cnt).sum : Nat) : Int)
  | [] => rfl
  | sc :: r => by
    show (cnt sc : Int) + (r.map fun sc => ((cnt sc : Nat) : Int)).sum = ((cnt sc + (r.map cnt).sum : Nat) : Int)
    rw [sum_cnt r]
    omega
/-- the addresses of the scripts -/
theorem zr_addrs {H H' : Hp} : ∀ {ss : List (List Wd)} {vs : List V}, Paired (ZR H H') ss vs → ∃ ds : List Addr, vs = ds.map V.ref ∧ (∀ d ∈ ds, H d = none ∧ ∃ sc, FzT H' d (wV sc))
  | _, _, .nil => ⟨[], rfl, fun _ h => nomatch h⟩
  | _, _, .cons ⟨a, e, h1, h2⟩ q => by
    obtain ⟨ds, e2, h3⟩ := zr_addrs q
    refine ⟨a :: ds, by rw [e, e2]; rfl, fun d hd => ?_⟩
    rcases List.mem_cons.mp hd with rfl | hd
    · exact ⟨h1, _, h2⟩
    · exact h3 d hd
theorem zr_thaw {H H' : Hp} {ds : List Addr} : ∀ {ss : List (List Wd)} {vs : List V}, Paired (ZR H H') ss vs → (∀ v ∈ vs, ∃ d ∈ ds, v = .ref d) → TpAll (thaws H' ds) vs (ss.map fun sc => .tuple (scE sc))
  | _, _, .nil, _ => .nil
  | _, _, .cons ⟨a, e, h1, o, h2, h3⟩ q, hm => by
    subst e
    obtain ⟨d, hd, ed⟩ := hm _ (List.mem_cons_self ..)
    cases ed
    exact .cons (.tup (thaws_mem h2 hd) (tp_words _)) (zr_thaw q fun v hv => hm v (List.mem_cons_of_mem _ hv))
theorem lev_out (ss : List (List Wd)) (h : ss.length ≤ 4) (ok : ∀ sc ∈ ss, okScr sc) : Lev 3 (.list (ss.map fun sc => .tuple (scE sc))) := .lst (by rw [List.length_map]; omega) fun x hx => by
  obtain ⟨sc, hsc, rfl⟩ := List.mem_map.mp hx
  have := (ok sc hsc).1
  refine .tup (by unfold scE; rw [List.length_map]; omega) fun y hy => ?_
  obtain ⟨v, _, rfl⟩ := List.mem_map.mp hy
  exact .str _ _
/-- what calmed tells, as data -/
def cmdD : Option (List (List Wd)) → PyData
  | none => .none
  | some ss => .list (ss.map fun sc => .tuple (scE sc))
theorem CmdV.at {H H' : Hp} {v : V} {r : Option (List (List Wd))} {m : Addr} {o : HO} (h : CmdV H H' v r) (hm : H m = some o) (nT : NoT H' m) : At m H' v (cmdD r) := by
  cases r with
  | none =>
    obtain rfl := h
    exact .non
  | some ss =>
    obtain ⟨L, vs, rfl, h1, h2, h3⟩ := h
    exact .lst (fun z => by rw [z, hm] at h1; cases h1) h2 (h3.at nT)
theorem CmdV.isN {H H' : Hp} {v : V} {r : Option (List (List Wd))} (h : CmdV H H' v r) : decide (v = .non) = r.isNone := by
  cases r with
  | none =>
    obtain rfl := h
    rfl
  | some ss =>
    obtain ⟨L, vs, rfl, _⟩ := h
    rfl
theorem lev_cmd {ss : List (List Wd)} (ok : Ok4 ss) : Lev 3 (cmdD (cmd ss)) := by
  cases h : cmd ss with
  | none => exact .non _
  | some ss' =>
    obtain ⟨ok', _⟩ := cmd_ok ok h
    exact lev_out ss' ok'.l4 ok'.ok
section
variable {P : Program} {w : World} {K : PySem.W.Frag} {mg : Str → Option Value} {base : Heap}

def spLaw (K : PySem.W.Frag) : Sp := fun vs H Q _ => ∃ (a : Addr) (ns : List Int), vs = [.ref a] ∧ SqL K H a (ns.map V.int) ∧ ns.length ≤ 63 ∧ ∀ H', Q (.bl true) H'
theorem ok_law {f : Addr} {fd : FuncData} (F : Fun K "law" "law" sLaw f fd) (T : Ty mg) (T1 : Tw mg)
    (PF : Pr P w K mg base 1 "_law_fresh" ["_law_script_here"] (spFresh K)) (PT : Pr P w K mg base 2 "_law_take" ["_law_state", "_law_many"] spTake) (PSc : Pr P w K mg base 5 "_law_scripts" ["_law_state", "_law_most", "_law_many"] spScriptsF)
    (PSx : Pr P w K mg base 4 "_law_six" ["_law_state"] spSix) (PH : Pr P w K mg base 5 "_law_handed" ["_law_state", "_law_thing"] (spHanded 2)) (PLc : Pr P w K mg base 7 "_law_calmed" ["_law_scripts_here"] spLcm)
    (PCm : Pr P w K mg base 8 "calmed" ["scripts"] spCmd) (PS4 : Pr P w K mg base 5 "_law_same" ["_law_found", "_law_due"] (spSame 4)) (PSt : Pr P w K mg base 6 "stuck" ["scripts"] spStk) : FnG P w K mg base 9 f fd ["_law_script_here"] (spLaw K) := by
  refine Fun.okG F scLaw (fun vs H Q E h => ?_) (fun cdv Ar outer s H vs Q E hgd hr h => ?_)
  · obtain ⟨a, ns, rfl, _⟩ := h
    rfl
  · obtain ⟨a, ns, rfl, hS, hlen, k⟩ := h
    have nd := scLaw.nd
    have hr1 := hr.mono (show 1 ≤ 8 by decide)
    have hr2 := hr.mono (show 2 ≤ 8 by decide)
    have hr4 := hr.mono (show 4 ≤ 8 by decide)
    have hr5 := hr.mono (show 5 ≤ 8 by decide)
    have hr6 := hr.mono (show 6 ≤ 8 by decide)
    have hr7 := hr.mono (show 7 ≤ 8 by decide)
    refine ⟨_, (pss_cons (ps_asg (pe_callP PF hr1 (by rfl) (pa_cons (pv 0) pa_nil)) (pg_name (i := 1) nd rfl (Or.inl rfl)))
      (pss_cons (ps_for PassesOwn.never rfl (pi_range1 rfl T1.range (pa_cons pe_int pa_nil)) (pg_name (i := 2) nd rfl (Or.inl rfl))
        (pss_cons (ps_asg (pe_ix ix_tup (pe_tup (pa_cons (pe_tup (pa_cons pe_int (pa_cons pe_int (pa_cons pe_int pa_nil)))) (pa_cons (pe_tup (pa_cons pe_int (pa_cons pe_int (pa_cons pe_int pa_nil)))) (pa_cons (pe_tup (pa_cons pe_int (pa_cons pe_int (pa_cons pe_int pa_nil)))) (pa_cons (pe_tup (pa_cons pe_int (pa_cons pe_int (pa_cons pe_int pa_nil)))) pa_nil))))) (pv 2) (fun _ _ => rfl)) (pg_tup rfl (pgs_cons (pg_name (i := 3) nd rfl (Or.inl rfl)) (pgs_cons (pg_name (i := 4) nd rfl (Or.inl rfl)) (pgs_cons (pg_name (i := 5) nd rfl (Or.inl rfl)) pgs_nil)))))
        (pss_cons (ps_asg (pe_callP PSc hr5 (by rfl) (pa_cons (pv 1) (pa_cons (pv 3) (pa_cons (pv 4) pa_nil)))) (pg_name (i := 6) nd rfl (Or.inl rfl)))
        (Evl.pss_cut (ps_if (PW.pt (pw_and (pt_cmpR op_eq (pv 2) pe_int (nomark _)) (pw_and1 (pt_cmpR op_eq (pe_callP PT hr2 (by rfl) (pa_cons (pv 1) (pa_cons pe_int pa_nil))) pe_int (nomark _)))))
          (pss_one (ps_par (by rfl) nd (i := 6) (j := 5) rfl rfl (by decide) rfl rfl (pa_cons (pe_callP PSx hr4 (by rfl) (pa_cons (pv 1) pa_nil)) (pa_cons pe_int pa_nil)) (by rfl)))
          pss_nil)
        (pss_one (ps_if (pt_cmpR op_lt (pe_thaw (pe_callB (cr_sum rfl) (by rfl) T1.sum (by decide +kernel) (pa_cons (pe_lc (own := [("_law_one_here", 12)]) (g := gName 12) (tt := tYes) (te := tBMF (rTCnt K) (tVar 12) (tCons (tC (.str "begin")) tNil)) (by rfl) nd (pi_tup (pv 6))
  (blkOk_by (own := [("_law_one_here", 12)]) (N := nLaw) (sc := defScope sLaw) (by decide +kernel))
  (fun _ _ _ _ _ => pg_name (i := 12) nd rfl (Or.inl rfl) (Or.inr rfl)) (fun _ _ _ _ _ => pts_nil)
  (fun _ _ _ _ _ => (pe_bmF PySem.F.slot_tuple_count PySem.F.type_tuple_count (mt_tcount hr.units) (pv 12) (pa_cons pe_str pa_nil)))) pa_nil))) (pv 5) (nomark _))
          (pss_cons (ps_par (by rfl) nd (i := 7) (j := 8) rfl rfl (by decide) rfl rfl (pa_cons (pe_callP PH hr5 (by rfl) (pa_cons (pv 1) (pa_cons (pv 6) pa_nil))) (pa_cons (pe_callP PLc hr7 (by rfl) (pa_cons (pv 6) pa_nil)) pa_nil)) (by rfl))
          (pss_cons (ps_asg (pe_callB (call_repr hgd hr.units) (by rfl) T1.repr (by decide +kernel) (pa_cons (pv 7) pa_nil)) (pg_name (i := 9) nd rfl (Or.inl rfl)))
          (pss_one (ps_for PassesOwn.never rfl (pi_range1 rfl T1.range (pa_cons (pe_op op_add pe_int (pe_callTy call_int1 (by rfl) T.int (by decide +kernel) (pa_cons (pe_cmpR op_notN (pv 8) pe_non (nomark _)) pa_nil))) pa_nil)) (pg_name (i := 10) nd rfl (Or.inl rfl))
            (pss_cons (ps_asg (pe_callP PCm hr (by rfl) (pa_cons (pv 7) pa_nil)) (pg_name (i := 11) nd rfl (Or.inl rfl)))
            (pss_cons (ps_if (PW.pt (pw_or (pt_not (pt_val (pe_callP PS4 hr5 (by rfl) (pa_cons (pe_lst (pa_cons (pv 11) pa_nil)) (pa_cons (pe_lst (pa_cons (pv 8) pa_nil)) pa_nil))))) (pw_or1 (pt_cmpR op_ne (pe_callB (call_repr hgd hr.units) (by rfl) T1.repr (by decide +kernel) (pa_cons (pv 7) pa_nil)) (pv 9) (nomark _)))))
              (pss_one (ps_ret pe_bl))
              pss_nil)
            (pss_one (ps_if (pt_cmpR op_notN (pv 11) pe_non (nomark _))
              (pss_cons (ps_if (pt_cmpR op_ne (pe_ix ix_tup (pe_callP PSt hr6 (by rfl) (pa_cons (pv 11) pa_nil)) pe_int (fun _ _ => rfl)) pe_str (nomark _))
                (pss_one (ps_ret pe_bl))
                pss_nil)
              (pss_one (ps_expr (pe_bm PySem.F.plainAttrs_list PySem.F.slot_list_append PySem.F.type_list_append mt_append (pv 11) (pa_cons (pe_tup (pa_cons pe_str pa_nil)) pa_nil)))))
              pss_nil))))))))
          pss_nil))))))
      (pss_one (ps_ret pe_bl)))), ?_⟩
    refine ⟨_, rfl, a, ns, rfl, hS, hlen, fun st c' H1 nst nc dr sm => ?_⟩
    refine ⟨_, rfl, by decide, by decide, ?_⟩
    refine for_range (fun i σ H2 => (∃ o2 o3 o4 o5 o6 o7 o8 o9 o10 o11 o12, σ = [some (.ref a), some (.ref st), o2, o3, o4, o5, o6, o7, o8, o9, o10, o11, o12]) ∧ Drw H2 st c' ns ∧ But st H1 H2) ⟨⟨_, _, _, _, _, _, _, _, _, _, _, rfl⟩, dr, But.refl _ _⟩ ?_ ?_
    · rintro i σ H2 hi ⟨⟨o2, o3, o4, o5, o6, o7, o8, o9, o10, o11, o12, rfl⟩, d2, b2⟩
      have hi4 : i < 4 := hi
      have hfree : ∀ d, d ≠ st → H2 d = none → H d = none := fun d n e => Same.free sm (b2.free n e)
      -- most, many, under
      refine ⟨(by show 3 ≤ sizeLine; decide), fun p1 np1 => ?_⟩
      generalize hp1 : upd H2 p1 _ = H3
      have sp1 : Same H2 H3 := hp1 ▸ Same.new np1
      have ep1 : H3 p1 = some (.tup [.int 2, .int 6, .int 6]) := hp1 ▸ upd_same
      clear hp1
      refine ⟨(by show 3 ≤ sizeLine; decide), fun p2 np2 => ?_⟩
      generalize hp2 : upd H3 p2 _ = H4
      have sp2 : Same H3 H4 := hp2 ▸ Same.new np2
      have ep2 : H4 p2 = some (.tup [.int 3, .int 4, .int 5]) := hp2 ▸ upd_same
      clear hp2
      refine ⟨(by show 3 ≤ sizeLine; decide), fun p3 np3 => ?_⟩
      generalize hp3 : upd H4 p3 _ = H5
      have sp3 : Same H4 H5 := hp3 ▸ Same.new np3
      have ep3 : H5 p3 = some (.tup [.int 3, .int 3, .int 6]) := hp3 ▸ upd_same
      clear hp3
      refine ⟨(by show 3 ≤ sizeLine; decide), fun p4 np4 => ?_⟩
      generalize hp4 : upd H5 p4 _ = H6
      have sp4 : Same H5 H6 := hp4 ▸ Same.new np4
      have ep4 : H6 p4 = some (.tup [.int 2, .int 8, .int 5]) := hp4 ▸ upd_same
      clear hp4
      refine ⟨(by show 4 ≤ sizeLine; decide), fun p5 np5 => ?_⟩
      generalize hp5 : upd H6 p5 _ = H7
      have sp5 : Same H6 H7 := hp5 ▸ Same.new np5
      have ep5 : H7 p5 = some (.tup [.ref p1, .ref p2, .ref p3, .ref p4]) := hp5 ▸ upd_same
      clear hp5
      have s27 : Same H2 H7 := Same.tr sp1 (Same.tr sp2 (Same.tr sp3 (Same.tr sp4 sp5)))
      obtain ⟨pm, most, many, under, hat, hpm, hmost, hmost4, hmany, hunder⟩ : ∃ (pm : Addr) (most many under : Nat), atI [V.ref p1, .ref p2, .ref p3, .ref p4] (0 + (i : Int)) = some (.ref pm) ∧ H7 pm = some (.tup [.int (most : Int), .int (many : Int), .int (under : Int)]) ∧ 0 < most ∧ most ≤ 4 ∧ many ≤ 8 ∧ under ≤ 7 := by
        have e1 := sp5 _ _ (sp4 _ _ (sp3 _ _ (sp2 _ _ ep1)))
        have e2 := sp5 _ _ (sp4 _ _ (sp3 _ _ ep2))
        have e3 := sp5 _ _ (sp4 _ _ ep3)
        have e4 := sp5 _ _ ep4
        have : i = 0 ∨ i = 1 ∨ i = 2 ∨ i = 3 := by omega
        rcases this with rfl | rfl | rfl | rfl
        · exact ⟨p1, 2, 6, 6, rfl, e1, by decide, by decide, by decide, by decide⟩
        · exact ⟨p2, 3, 4, 5, rfl, e2, by decide, by decide, by decide, by decide⟩
        · exact ⟨p3, 3, 3, 6, rfl, e3, by decide, by decide, by decide, by decide⟩
        · exact ⟨p4, 2, 8, 5, rfl, e4, by decide, by decide, by decide, by decide⟩
      refine ⟨_, rfl, _, _, _, _, rfl, rfl, SqT.of ep5, hat, ?_⟩
      refine ⟨_, _, rfl, SqT.of hpm, rfl, _, _, rfl, _, _, rfl, _, _, rfl, rfl, ?_⟩
      have d7 := d2.same s27
      -- some
      refine ⟨_, rfl, _, rfl, _, rfl, st, c', ns, most, many, rfl, d7, hlen, hmany, hmost, hmost4, fun ss q vs H8 l1 l4 ok nq hq pz d8 b8 => ?_⟩
      have b28 : But st H2 H8 := (Same.but s27).trans b8
      have pz8 : Paired (ZR H2 H8) ss vs := paired_imp (fun s v z => by
        obtain ⟨x, e1, e2, e3⟩ := z
        exact ⟨x, e1, Same.free s27 e2, e3⟩) pz
      refine ⟨fun σ' H9 => ∃ (q : Addr) (ss : List (List Wd)) (vs : List V) (under : Nat), under ≤ 7 ∧ Ok4 ss ∧ H9 q = some (.tup vs) ∧ Paired (ZR H2 H9) ss vs ∧ Drw H9 st c' ns ∧ But st H2 H9 ∧ σ' = [some (.ref a), some (.ref st), some (.int (0 + (i : Int))), some (.int (most : Int)), some (.int (many : Int)), some (.int (under : Int)), some (.ref q), o7, o8, o9, o10, o11, o12], ?_, ?_⟩
      · have mid : ∀ H9, But st H8 H9 → Drw H9 st c' ns → ∃ (q' : Addr) (ss' : List (List Wd)) (vs' : List V) (under' : Nat), under' ≤ 7 ∧ Ok4 ss' ∧ H9 q' = some (.tup vs') ∧ Paired (ZR H2 H9) ss' vs' ∧ Drw H9 st c' ns ∧ But st H2 H9 ∧ [some (V.ref a), some (.ref st), some (.int (0 + (i : Int))), some (.int (most : Int)), some (.int (many : Int)), some (.int (under : Int)), some (.ref q), o7, o8, o9, o10, o11, o12] = [some (V.ref a), some (.ref st), some (.int (0 + (i : Int))), some (.int (most : Int)), some (.int (many : Int)), some (.int (under' : Int)), some (.ref q'), o7, o8, o9, o10, o11, o12] := by
          intro H9 b9 d9
          obtain ⟨ys, hst⟩ := d8.lst
          refine ⟨q, ss, vs, under, hunder, ⟨l1, by omega, ok⟩, b9 _ _ hq (fun z => ?_), paired_imp (fun s v z => z.but hst b9) pz8, d9, b28.trans b9, rfl⟩
          rw [z, hst] at hq
          cases hq
        refine ⟨_, rfl, rfl, _, rfl, ?_⟩
        cases decide (V.int (0 + (i : Int)) = V.int 3)
        · refine iteF ?_
          refine iteF ?_
          exact mid H8 (But.refl _ _) d8
        · refine iteT ?_
          refine ⟨_, rfl, st, c', ns, 6, rfl, d8, hlen, by decide, by decide, fun z H9 z0 z1 d9 b9 => ?_⟩
          refine ⟨rfl, _, rfl, ?_⟩
          cases decide (V.int z = V.int 0)
          · refine iteF ?_
            exact mid H9 b9 d9
          · refine iteT ?_
            refine ⟨_, rfl, st, c', ns, rfl, d9, hlen, fun ss2 q2 vs2 HA l2 ok2 nq2 hq2 pz2 dA bA => ?_⟩
            refine ⟨_, _, rfl, ?_⟩
            refine ⟨q2, ss2, vs2, 7, by decide, ⟨by omega, by omega, ok2⟩, hq2, paired_imp (fun s v z => ?_) pz2, dA, (b28.trans b9).trans bA, rfl⟩
            obtain ⟨x, e1, e2, e3⟩ := z
            obtain ⟨ys, hst⟩ := dA.lst
            exact ⟨x, e1, (b28.trans b9).free (e3.ne hst) e2, e3⟩
      clear hq pz8 pz d8 b8 b28 nq l1 l4 ok hpm hat hunder
      clear q ss vs under
      rintro σ' H9 ⟨q, ss, vs, under, hunder, ok4, hq, pz, d9, b9, rfl⟩
      have l4 := ok4.l4
      have ok := ok4.ok
      have lvs := paired_len pz
      -- the begins
      refine ⟨_, rfl, q, rfl, ⟨_, SqT.of hq⟩, fun Dl nDl => ?_⟩
      refine lc_tup (K := K) (a := q) (xs := vs) (fun j H6 => Same H9 H6 ∧ H6 Dl = some (.lst (((ss.take j).map fun sc => ((cnt sc : Nat) : Int)).map V.int))) ?_ ?_ ?_ ?_
      · exact ⟨same_new nDl, upd_same⟩
      · exact fun j H6 _ q => SqT.of (q.1 _ _ hq)
      · rintro j u HA hu ⟨sA, hlA⟩
        obtain ⟨sc, hsc, x, rfl, _, fz⟩ := paired_get pz hu
        have fzA := fz.same sA
        refine ⟨rfl, ?_⟩
        refine ⟨_, rfl, ⟨x, _, rfl, fzA⟩, ?_⟩
        refine ⟨x, wV sc, _, .str (wS .beg), scE sc, rfl, rfl, fzA.sq, (tp_words sc |>.at (.lst hlA)).dp, .str _, plain_words sc, rfl, rfl, ?_⟩
        rw [cnt_eqv]
        refine ⟨_, hlA, ?_, ?_, ?_⟩
        · rw [List.length_map, List.length_map, List.length_take]
          exact small6 (by omega)
        · intro b u e
          rw [upd_ne (ne_of_none e nDl)]
          exact sA _ _ e
        · rw [upd_same, take_succ' hsc, List.map_append, List.map_append]
          rfl
      rintro HA ⟨sA, hlA⟩
      rw [← lvs, List.take_length] at hlA
      refine ⟨Dl, _, rfl, SqL.of hlA, ?_⟩
      rw [sum_cnt]
      -- the scripts' locks are given back
      obtain ⟨ds, eds, hds⟩ := zr_addrs pz
      obtain ⟨ysA, hstA⟩ := (d9.same sA).lst
      have nds : ∀ d ∈ ds, d ≠ st := fun d hd => by
        obtain ⟨_, sc, fz⟩ := hds d hd
        exact (fz.same sA).ne hstA
      refine ⟨ds, fun d hd => hfree d (nds d hd) (hds d hd).1, ?_⟩
      generalize hB : thaws HA ds = HB
      have bB : But st H2 HB := fun b u e n => by
        rw [← hB, thaws_ne fun hb => ?_]
        · exact sA _ _ (b9 _ _ e n)
        · rw [(hds b hb).1] at e
          cases e
      have dB : Drw HB st c' ns := by
        obtain ⟨hc, n', v', b', h0', hs⟩ := d9.same sA
        refine ⟨?_, n', v', b', h0', ?_⟩
        · rw [← hB, thaws_ne fun hb => ?_]
          · exact hc
          · obtain ⟨_, sc, fz⟩ := hds _ hb
            exact (fz.same sA).ne hc rfl
        · rw [← hB, thaws_ne fun hb => nds _ hb rfl]
          exact hs
      have hqB : HB q = some (.tup vs) := by
        rw [← hB]
        exact thaws_tup (sA _ _ hq)
      have tB : Tp HB (.ref q) (scD ss) := by
        refine .tup hqB ?_
        rw [← hB]
        refine zr_thaw (paired_imp (fun s v z => z.same sA) pz) fun v hv => ?_
        rw [eds] at hv
        obtain ⟨d, hd, rfl⟩ := List.mem_map.mp hv
        exact ⟨d, hd, rfl⟩
      clear hB hlA sA hds nds pz eds
      have lbg : (bgA ss).length = (ss.map cnt).sum := by
        have := bgs_len ss ss.length
        rw [List.take_length] at this
        exact this
      have stop : ∀ HZ, Drw HZ st c' ns → But st H2 HZ → ∀ (o6 o7 o8 o9 o10 o11 o12 : Option V), (∃ p2 p3 p4 p5 p6 p7 p8 p9 p10 p11 p12, [some (V.ref a), some (.ref st), some (.int (0 + (i : Int))), some (.int (most : Int)), some (.int (many : Int)), some (.int (under : Int)), o6, o7, o8, o9, o10, o11, o12] = [some (V.ref a), some (.ref st), p2, p3, p4, p5, p6, p7, p8, p9, p10, p11, p12]) ∧ Drw HZ st c' ns ∧ But st H1 HZ :=
        fun HZ dZ bZ _ _ _ _ _ _ _ => ⟨⟨_, _, _, _, _, _, _, _, _, _, _, rfl⟩, dZ, b2.trans bZ⟩
      refine ⟨_, rfl, _, _, rfl, rfl, _, rfl, ?_⟩
      by_cases hun : (((ss.map cnt).sum : Nat) : Int) < (under : Int)
      case neg =>
        rw [decide_eq_false hun]
        refine iteF ?_
        exact stop HB dB bB _ _ _ _ _ _ _
      rw [decide_eq_true hun]
      refine iteT ?_
      have hbg : (bgA ss).length ≤ 6 := by omega
      -- handed, due
      obtain ⟨ysB, hstB⟩ := dB.lst
      have nTB : NoT HB st := .lst hstB
      refine ⟨_, rfl, _, rfl, st, c', ns, .ref q, scD ss, rfl, dB, hlen, tB.at nTB, lev_scripts l4 ok, fun y dH HC hn hz dC bC => ?_⟩
      have aHC := hz _ _ hstB
      have sc := hn.scripts
      obtain ⟨dsH, sqH, _⟩ := id sc
      obtain ⟨Hd, uH, rfl, nHd, _, _⟩ := sqH.at aHC
      obtain ⟨ysC, hstC⟩ := dC.lst
      have nTC : NoT HC st := .lst hstC
      have tC : Tp HC (.ref q) (scD ss) := ((tB.at nTB).mono bC).tp (isT_sc ss)
      refine ⟨_, rfl, q, ss, rfl, tC, ok4, hbg, fun due HD sD cv => ?_⟩
      refine ⟨_, _, rfl, ?_⟩
      have dD := dC.same sD
      have hstD := sD _ _ hstC
      have nTD : NoT HD st := .lst hstD
      have aHD := aHC.mono (Same.but (m := st) sD)
      have aDue : At st HD due (cmdD (cmd ss)) := cv.at hstC nTD
      have bD : But st H2 HD := (bB.trans bC).tr' sD
      -- kept
      refine ⟨_, rfl, ?_⟩
      dsimp only [tNil]
      refine (sc.sh l4 ok).repr (by decide) (by decide) aHD ?_
      -- once, or twice
      refine ⟨_, rfl, rfl, .inr ⟨_, rfl, ?_⟩⟩
      refine ⟨_, _, rfl, rfl, _, rfl, ?_, ?_, ?_⟩
      · cases (!decide (due = V.non)) <;> decide
      · cases (!decide (due = V.non)) <;> decide
      refine for_range (lo := 0) (fun i2 σ HE => ∃ (o10 o11 o12 : Option V), σ = [some (.ref a), some (.ref st), some (.int (0 + (i : Int))), some (.int (most : Int)), some (.int (many : Int)), some (.int (under : Int)), some (.ref q), some (.ref Hd), some due, some (.str dH.shown), o10, o11, o12] ∧ Same HD HE) ⟨_, _, _, rfl, fun _ _ e => e⟩ ?_ ?_
      · rintro i2 σ HE hi2 ⟨o10, o11, o12, rfl, sE⟩
        have aHE := aHD.mono (Same.but (m := st) sE)
        refine ⟨_, rfl, st, Hd, _, ss, dH, sE _ _ hstD, rfl, aHE, sc, ok4, hbg, fun found HF sF cvF => ?_⟩
        have sDF := Same.tr sE sF
        have hstE := sE _ _ hstD
        have hstF := sF _ _ hstE
        have nTF : NoT HF st := .lst hstF
        have aFnd : At st HF found (cmdD (cmd ss)) := cvF.at hstE nTF
        have aDueF := aDue.mono (Same.but (m := st) sDF)
        -- same([found], [due])
        refine ⟨_, rfl, (by show 1 ≤ sizeLine; decide), fun N1 nN1 => ?_⟩
        generalize hN1 : upd HF N1 _ = HG
        have sN1 : Same HF HG := hN1 ▸ Same.new nN1
        have eN1 : HG N1 = some (.lst [found]) := hN1 ▸ upd_same
        clear hN1
        refine ⟨_, rfl, (by show 1 ≤ sizeLine; decide), fun N2 nN2 => ?_⟩
        generalize hN2 : upd HG N2 _ = HH
        have sN2 : Same HG HH := hN2 ▸ Same.new nN2
        have eN2 : HH N2 = some (.lst [due]) := hN2 ▸ upd_same
        clear hN2
        have sFH := Same.tr sN1 sN2
        have nN1s : N1 ≠ st := fun z => by
          rw [z, hstF] at nN1
          cases nN1
        have nN2s : N2 ≠ st := fun z => by
          rw [z, sN1 _ _ hstF] at nN2
          cases nN2
        refine ⟨st, .ref N1, .ref N2, .list [cmdD (cmd ss)], _, rfl, sFH _ _ hstF, .lst nN1s (sN2 _ _ eN1) (.cons (aFnd.mono (Same.but (m := st) sFH)) .nil), .lst nN2s eN2 (.cons (aDueF.mono (Same.but (m := st) sFH)) .nil), ?_, fun HI sI => ?_⟩
        · refine .lst (by show 1 ≤ 5000000; decide) fun x hx => ?_
          rw [List.mem_singleton.mp hx]
          exact lev_cmd ok4
        refine ⟨_, rfl, iteF ?_⟩
        have sFI := Same.tr sFH sI
        have sDI := Same.tr sDF sFI
        -- repr
        refine ⟨_, rfl, ?_⟩
        dsimp only [tNil]
        refine (sc.sh l4 ok).repr (by decide) (by decide) (aHD.mono (Same.but (m := st) sDI)) ?_
        refine ⟨_, rfl, rfl, _, rfl, ne_self_if ?_⟩
        -- found is not None
        refine ⟨_, rfl, rfl, _, rfl, ?_⟩
        rw [cvF.isN]
        cases hcm : cmd ss with
        | none =>
          refine iteF ?_
          exact ⟨_, _, _, rfl, sDI⟩
        | some ss' =>
          refine iteT ?_
          rw [hcm] at cvF
          obtain ⟨L, ws, rfl, nL, hL, tL⟩ := cvF
          obtain ⟨ok', hcalm⟩ := cmd_ok ok4 hcm
          have nLs : L ≠ st := fun z => by
            rw [z, hstE] at nL
            cases nL
          have hstI := sFI _ _ hstF
          have nTI : NoT HI st := .lst hstI
          refine ⟨_, rfl, st, L, _, ss', _, hstI, rfl, .lst nLs (sFI _ _ hL) ((tL.mono (.same sFI)).at nTI), scin_list _, ok', fun qq HJ sJ told => ?_⟩
          rcases told with ⟨L2, ys, N, hqq, nL2, hL2, hN, hnev, _⟩ | ⟨O2, n, e, ks, hqq, hO2, he, hbef, hrf, _⟩
          · refine ⟨_, _, _, _, rfl, rfl, SqT.of hqq, rfl, rfl, _, rfl, ne_self_if ?_⟩
            have hLJ := sJ _ _ (sFI _ _ hL)
            refine ⟨_, rfl, .inl ⟨rfl, _, SqL.of hLJ⟩, (by show 1 ≤ sizeLine; decide), fun N3 nN3 => ?_⟩
            generalize hN3 : upd HJ N3 _ = HK
            have sN3 : Same HJ HK := hN3 ▸ Same.new nN3
            clear hN3
            have lws := tL.length
            rw [List.length_map] at lws
            have := ok'.l4
            refine ⟨L, ws, .ref N3, rfl, rfl, sN3 _ _ hLJ, small6 (by omega), ?_⟩
            refine ⟨_, _, _, rfl, fun b u e => ?_⟩
            have nbL : b ≠ L := fun z => by
              rw [z] at e
              rw [sE _ _ e] at nL
              cases nL
            rw [upd_ne nbL]
            exact sN3 _ _ (sJ _ _ (sDI _ _ e))
          · rw [calm_order ok' he hrf] at hcalm
            cases hcalm
      · rintro σ HE ⟨o10, o11, o12, rfl, sE⟩
        exact stop HE (dD.same sE) (bD.tr' sE) _ _ _ _ _ _ _
    · rintro σ H2 ⟨⟨o2, o3, o4, o5, o6, o7, o8, o9, o10, o11, o12, rfl⟩, d2, b2⟩
      exact k _
end
end C83

set_option Elab.async false
set_option maxRecDepth 100000
set_option maxHeartbeats 4000000
set_option linter.all false
namespace C83
open PySem L2 My M78
theorem df_mk {K : PySem.W.Frag} {h : Heap} {mg : Str → Option Value} {x : Str} {st : Stmt} {ps : List Str} {f : Addr} {oc : Value} {od an : Option Addr} {osl : Array (Option Value)} {kV doc pm cdv ct : Value} (X : K.In h) (G : h.Ns mainGlobals mg)
    (a : PySem.W.nsIn K mainGlobals x = some (some (.ref f))) (l : K.lookup f = some ⟨oc, od, .func (PySem.W.fnOf x x (defArgs st) (defBody st) (defScope st) .none kV doc pm an cdv ct), osl⟩) (c : PySem.W.codeIn K cdv x = true) (k : PySem.W.keepIn K (.ref f) = true)
    (hb : ∀ (kV doc pm : Value) (an : Option Addr) (cdv ct : Value) (us : List Value), us.length = ps.length → bindArgs (PySem.W.fnOf x x (defArgs st) (defBody st) (defScope st) .none kV doc pm an cdv ct) ⟨us, []⟩ = pure (ps.zip us)) : Df K mg x st ps :=
  ⟨f, _, fun_mk l c k, (fun_mk (st := st) l c k).binds hb, PySem.W.mg_of X G a⟩
theorem all_mk {l : PySem.W.OpenLaw} {w : World} {K : PySem.W.Frag} {h : Heap} {mg : Str → Option Value} {fa : Addr} {f0 : Addr} {oc0 kV0 dc0 pm0 cd0 ct0 : Value} {od0 an0 : Option Addr} {sl0 : Array (Option Value)} {f1 : Addr} {oc1 kV1 dc1 pm1 cd1 ct1 : Value} {od1 an1 : Option Addr} {sl1 : Array (Option Value)} {f2 : Addr} {oc2 kV2 dc2 pm2 cd2 ct2 : Value} {od2 an2 : Option Addr} {sl2 : Array (Option Value)} {f3 : Addr} {oc3 kV3 dc3 pm3 cd3 ct3 : Value} {od3 an3 : Option Addr} {sl3 : Array (Option Value)} {f4 : Addr} {oc4 kV4 dc4 pm4 cd4 ct4 : Value} {od4 an4 : Option Addr} {sl4 : Array (Option Value)} {f5 : Addr} {oc5 kV5 dc5 pm5 cd5 ct5 : Value} {od5 an5 : Option Addr} {sl5 : Array (Option Value)} {f6 : Addr} {oc6 kV6 dc6 pm6 cd6 ct6 : Value} {od6 an6 : Option Addr} {sl6 : Array (Option Value)} {f7 : Addr} {oc7 kV7 dc7 pm7 cd7 ct7 : Value} {od7 an7 : Option Addr} {sl7 : Array (Option Value)} {f8 : Addr} {oc8 kV8 dc8 pm8 cd8 ct8 : Value} {od8 an8 : Option Addr} {sl8 : Array (Option Value)} {f9 : Addr} {oc9 kV9 dc9 pm9 cd9 ct9 : Value} {od9 an9 : Option Addr} {sl9 : Array (Option Value)} {f10 : Addr} {oc10 kV10 dc10 pm10 cd10 ct10 : Value} {od10 an10 : Option Addr} {sl10 : Array (Option Value)} {f11 : Addr} {oc11 kV11 dc11 pm11 cd11 ct11 : Value} {od11 an11 : Option Addr} {sl11 : Array (Option Value)} {f12 : Addr} {oc12 kV12 dc12 pm12 cd12 ct12 : Value} {od12 an12 : Option Addr} {sl12 : Array (Option Value)} {f13 : Addr} {oc13 kV13 dc13 pm13 cd13 ct13 : Value} {od13 an13 : Option Addr} {sl13 : Array (Option Value)} {f14 : Addr} {oc14 kV14 dc14 pm14 cd14 ct14 : Value} {od14 an14 : Option Addr} {sl14 : Array (Option Value)} {f15 : Addr} {oc15 kV15 dc15 pm15 cd15 ct15 : Value} {od15 an15 : Option Addr} {sl15 : Array (Option Value)} {f16 : Addr} {oc16 kV16 dc16 pm16 cd16 ct16 : Value} {od16 an16 : Option Addr} {sl16 : Array (Option Value)} {f17 : Addr} {oc17 kV17 dc17 pm17 cd17 ct17 : Value} {od17 an17 : Option Addr} {sl17 : Array (Option Value)} {f18 : Addr} {oc18 kV18 dc18 pm18 cd18 ct18 : Value} {od18 an18 : Option Addr} {sl18 : Array (Option Value)} {f19 : Addr} {oc19 kV19 dc19 pm19 cd19 ct19 : Value} {od19 an19 : Option Addr} {sl19 : Array (Option Value)} {f20 : Addr} {oc20 kV20 dc20 pm20 cd20 ct20 : Value} {od20 an20 : Option Addr} {sl20 : Array (Option Value)} {f21 : Addr} {oc21 kV21 dc21 pm21 cd21 ct21 : Value} {od21 an21 : Option Addr} {sl21 : Array (Option Value)} {f22 : Addr} {oc22 kV22 dc22 pm22 cd22 ct22 : Value} {od22 an22 : Option Addr} {sl22 : Array (Option Value)} {f23 : Addr} {oc23 kV23 dc23 pm23 cd23 ct23 : Value} {od23 an23 : Option Addr} {sl23 : Array (Option Value)} {f24 : Addr} {oc24 kV24 dc24 pm24 cd24 ct24 : Value} {od24 an24 : Option Addr} {sl24 : Array (Option Value)} {f25 : Addr} {oc25 kV25 dc25 pm25 cd25 ct25 : Value} {od25 an25 : Option Addr} {sl25 : Array (Option Value)} {f26 : Addr} {oc26 kV26 dc26 pm26 cd26 ct26 : Value} {od26 an26 : Option Addr} {sl26 : Array (Option Value)} {f27 : Addr} {oc27 kV27 dc27 pm27 cd27 ct27 : Value} {od27 an27 : Option Addr} {sl27 : Array (Option Value)} {f28 : Addr} {oc28 kV28 dc28 pm28 cd28 ct28 : Value} {od28 an28 : Option Addr} {sl28 : Array (Option Value)} {f29 : Addr} {oc29 kV29 dc29 pm29 cd29 ct29 : Value} {od29 an29 : Option Addr} {sl29 : Array (Option Value)} {f30 : Addr} {oc30 kV30 dc30 pm30 cd30 ct30 : Value} {od30 an30 : Option Addr} {sl30 : Array (Option Value)} {f31 : Addr} {oc31 kV31 dc31 pm31 cd31 ct31 : Value} {od31 an31 : Option Addr} {sl31 : Array (Option Value)} {f32 : Addr} {oc32 kV32 dc32 pm32 cd32 ct32 : Value} {od32 an32 : Option Addr} {sl32 : Array (Option Value)} {f33 : Addr} {oc33 kV33 dc33 pm33 cd33 ct33 : Value} {od33 an33 : Option Addr} {sl33 : Array (Option Value)} {f34 : Addr} {oc34 kV34 dc34 pm34 cd34 ct34 : Value} {od34 an34 : Option Addr} {sl34 : Array (Option Value)} {f35 : Addr} {oc35 kV35 dc35 pm35 cd35 ct35 : Value} {od35 an35 : Option Addr} {sl35 : Array (Option Value)} (X : K.In h) (G : h.Ns mainGlobals mg) (hfa : mg "law" = some (.ref fa))
    (a0 : PySem.W.nsIn K mainGlobals "is_list" = some (some (.ref f0))) (l0 : K.lookup f0 = some ⟨oc0, od0, .func (PySem.W.fnOf "is_list" "is_list" (defArgs sIsList) (defBody sIsList) (defScope sIsList) .none kV0 dc0 pm0 an0 cd0 ct0), sl0⟩) (c0 : PySem.W.codeIn K cd0 "is_list" = true) (k0 : PySem.W.keepIn K (.ref f0) = true)
    (a1 : PySem.W.nsIn K mainGlobals "is_script" = some (some (.ref f1))) (l1 : K.lookup f1 = some ⟨oc1, od1, .func (PySem.W.fnOf "is_script" "is_script" (defArgs sIsScript) (defBody sIsScript) (defScope sIsScript) .none kV1 dc1 pm1 an1 cd1 ct1), sl1⟩) (c1 : PySem.W.codeIn K cd1 "is_script" = true) (k1 : PySem.W.keepIn K (.ref f1) = true)
    (a2 : PySem.W.nsIn K mainGlobals "checked" = some (some (.ref f2))) (l2 : K.lookup f2 = some ⟨oc2, od2, .func (PySem.W.fnOf "checked" "checked" (defArgs sChecked) (defBody sChecked) (defScope sChecked) .none kV2 dc2 pm2 an2 cd2 ct2), sl2⟩) (c2 : PySem.W.codeIn K cd2 "checked" = true) (k2 : PySem.W.keepIn K (.ref f2) = true)
    (a3 : PySem.W.nsIn K mainGlobals "first_state" = some (some (.ref f3))) (l3 : K.lookup f3 = some ⟨oc3, od3, .func (PySem.W.fnOf "first_state" "first_state" (defArgs sFirst) (defBody sFirst) (defScope sFirst) .none kV3 dc3 pm3 an3 cd3 ct3), sl3⟩) (c3 : PySem.W.codeIn K cd3 "first_state" = true) (k3 : PySem.W.keepIn K (.ref f3) = true)
    (a4 : PySem.W.nsIn K mainGlobals "resting" = some (some (.ref f4))) (l4 : K.lookup f4 = some ⟨oc4, od4, .func (PySem.W.fnOf "resting" "resting" (defArgs sRest) (defBody sRest) (defScope sRest) .none kV4 dc4 pm4 an4 cd4 ct4), sl4⟩) (c4 : PySem.W.codeIn K cd4 "resting" = true) (k4 : PySem.W.keepIn K (.ref f4) = true)
    (a5 : PySem.W.nsIn K mainGlobals "opened_lock" = some (some (.ref f5))) (l5 : K.lookup f5 = some ⟨oc5, od5, .func (PySem.W.fnOf "opened_lock" "opened_lock" (defArgs sOpen) (defBody sOpen) (defScope sOpen) .none kV5 dc5 pm5 an5 cd5 ct5), sl5⟩) (c5 : PySem.W.codeIn K cd5 "opened_lock" = true) (k5 : PySem.W.keepIn K (.ref f5) = true)
    (a6 : PySem.W.nsIn K mainGlobals "working_lock" = some (some (.ref f6))) (l6 : K.lookup f6 = some ⟨oc6, od6, .func (PySem.W.fnOf "working_lock" "working_lock" (defArgs sWork) (defBody sWork) (defScope sWork) .none kV6 dc6 pm6 an6 cd6 ct6), sl6⟩) (c6 : PySem.W.codeIn K cd6 "working_lock" = true) (k6 : PySem.W.keepIn K (.ref f6) = true)
    (a7 : PySem.W.nsIn K mainGlobals "tried" = some (some (.ref f7))) (l7 : K.lookup f7 = some ⟨oc7, od7, .func (PySem.W.fnOf "tried" "tried" (defArgs sTried) (defBody sTried) (defScope sTried) .none kV7 dc7 pm7 an7 cd7 ct7), sl7⟩) (c7 : PySem.W.codeIn K cd7 "tried" = true) (k7 : PySem.W.keepIn K (.ref f7) = true)
    (a8 : PySem.W.nsIn K mainGlobals "moved" = some (some (.ref f8))) (l8 : K.lookup f8 = some ⟨oc8, od8, .func (PySem.W.fnOf "moved" "moved" (defArgs sMoved) (defBody sMoved) (defScope sMoved) .none kV8 dc8 pm8 an8 cd8 ct8), sl8⟩) (c8 : PySem.W.codeIn K cd8 "moved" = true) (k8 : PySem.W.keepIn K (.ref f8) = true)
    (a9 : PySem.W.nsIn K mainGlobals "waiting_ones" = some (some (.ref f9))) (l9 : K.lookup f9 = some ⟨oc9, od9, .func (PySem.W.fnOf "waiting_ones" "waiting_ones" (defArgs sWait) (defBody sWait) (defScope sWait) .none kV9 dc9 pm9 an9 cd9 ct9), sl9⟩) (c9 : PySem.W.codeIn K cd9 "waiting_ones" = true) (k9 : PySem.W.keepIn K (.ref f9) = true)
    (a10 : PySem.W.nsIn K mainGlobals "way_to" = some (some (.ref f10))) (l10 : K.lookup f10 = some ⟨oc10, od10, .func (PySem.W.fnOf "way_to" "way_to" (defArgs sWay) (defBody sWay) (defScope sWay) .none kV10 dc10 pm10 an10 cd10 ct10), sl10⟩) (c10 : PySem.W.codeIn K cd10 "way_to" = true) (k10 : PySem.W.keepIn K (.ref f10) = true)
    (a11 : PySem.W.nsIn K mainGlobals "is_stuck_state" = some (some (.ref f11))) (l11 : K.lookup f11 = some ⟨oc11, od11, .func (PySem.W.fnOf "is_stuck_state" "is_stuck_state" (defArgs sIss) (defBody sIss) (defScope sIss) .none kV11 dc11 pm11 an11 cd11 ct11), sl11⟩) (c11 : PySem.W.codeIn K cd11 "is_stuck_state" = true) (k11 : PySem.W.keepIn K (.ref f11) = true)
    (a12 : PySem.W.nsIn K mainGlobals "stuck" = some (some (.ref f12))) (l12 : K.lookup f12 = some ⟨oc12, od12, .func (PySem.W.fnOf "stuck" "stuck" (defArgs sStk) (defBody sStk) (defScope sStk) .none kV12 dc12 pm12 an12 cd12 ct12), sl12⟩) (c12 : PySem.W.codeIn K cd12 "stuck" = true) (k12 : PySem.W.keepIn K (.ref f12) = true)
    (a13 : PySem.W.nsIn K mainGlobals "choices" = some (some (.ref f13))) (l13 : K.lookup f13 = some ⟨oc13, od13, .func (PySem.W.fnOf "choices" "choices" (defArgs sCh) (defBody sCh) (defScope sCh) .none kV13 dc13 pm13 an13 cd13 ct13), sl13⟩) (c13 : PySem.W.codeIn K cd13 "choices" = true) (k13 : PySem.W.keepIn K (.ref f13) = true)
    (a14 : PySem.W.nsIn K mainGlobals "with_immediate" = some (some (.ref f14))) (l14 : K.lookup f14 = some ⟨oc14, od14, .func (PySem.W.fnOf "with_immediate" "with_immediate" (defArgs sWi) (defBody sWi) (defScope sWi) .none kV14 dc14 pm14 an14 cd14 ct14), sl14⟩) (c14 : PySem.W.codeIn K cd14 "with_immediate" = true) (k14 : PySem.W.keepIn K (.ref f14) = true)
    (a15 : PySem.W.nsIn K mainGlobals "calmed" = some (some (.ref f15))) (l15 : K.lookup f15 = some ⟨oc15, od15, .func (PySem.W.fnOf "calmed" "calmed" (defArgs sCmd) (defBody sCmd) (defScope sCmd) .none kV15 dc15 pm15 an15 cd15 ct15), sl15⟩) (c15 : PySem.W.codeIn K cd15 "calmed" = true) (k15 : PySem.W.keepIn K (.ref f15) = true)
    (a16 : PySem.W.nsIn K mainGlobals "_law_fresh" = some (some (.ref f16))) (l16 : K.lookup f16 = some ⟨oc16, od16, .func (PySem.W.fnOf "_law_fresh" "_law_fresh" (defArgs sFresh) (defBody sFresh) (defScope sFresh) .none kV16 dc16 pm16 an16 cd16 ct16), sl16⟩) (c16 : PySem.W.codeIn K cd16 "_law_fresh" = true) (k16 : PySem.W.keepIn K (.ref f16) = true)
    (a17 : PySem.W.nsIn K mainGlobals "_law_fill" = some (some (.ref f17))) (l17 : K.lookup f17 = some ⟨oc17, od17, .func (PySem.W.fnOf "_law_fill" "_law_fill" (defArgs sFill) (defBody sFill) (defScope sFill) .none kV17 dc17 pm17 an17 cd17 ct17), sl17⟩) (c17 : PySem.W.codeIn K cd17 "_law_fill" = true) (k17 : PySem.W.keepIn K (.ref f17) = true)
    (a18 : PySem.W.nsIn K mainGlobals "_law_take" = some (some (.ref f18))) (l18 : K.lookup f18 = some ⟨oc18, od18, .func (PySem.W.fnOf "_law_take" "_law_take" (defArgs sTake) (defBody sTake) (defScope sTake) .none kV18 dc18 pm18 an18 cd18 ct18), sl18⟩) (c18 : PySem.W.codeIn K cd18 "_law_take" = true) (k18 : PySem.W.keepIn K (.ref f18) = true)
    (a19 : PySem.W.nsIn K mainGlobals "_law_one" = some (some (.ref f19))) (l19 : K.lookup f19 = some ⟨oc19, od19, .func (PySem.W.fnOf "_law_one" "_law_one" (defArgs sOne) (defBody sOne) (defScope sOne) .none kV19 dc19 pm19 an19 cd19 ct19), sl19⟩) (c19 : PySem.W.codeIn K cd19 "_law_one" = true) (k19 : PySem.W.keepIn K (.ref f19) = true)
    (a20 : PySem.W.nsIn K mainGlobals "_law_same" = some (some (.ref f20))) (l20 : K.lookup f20 = some ⟨oc20, od20, .func (PySem.W.fnOf "_law_same" "_law_same" (defArgs sSame) (defBody sSame) (defScope sSame) .none kV20 dc20 pm20 an20 cd20 ct20), sl20⟩) (c20 : PySem.W.codeIn K cd20 "_law_same" = true) (k20 : PySem.W.keepIn K (.ref f20) = true)
    (a21 : PySem.W.nsIn K mainGlobals "_law_script" = some (some (.ref f21))) (l21 : K.lookup f21 = some ⟨oc21, od21, .func (PySem.W.fnOf "_law_script" "_law_script" (defArgs sScript) (defBody sScript) (defScope sScript) .none kV21 dc21 pm21 an21 cd21 ct21), sl21⟩) (c21 : PySem.W.codeIn K cd21 "_law_script" = true) (k21 : PySem.W.keepIn K (.ref f21) = true)
    (a22 : PySem.W.nsIn K mainGlobals "_law_scripts" = some (some (.ref f22))) (l22 : K.lookup f22 = some ⟨oc22, od22, .func (PySem.W.fnOf "_law_scripts" "_law_scripts" (defArgs sScripts) (defBody sScripts) (defScope sScripts) .none kV22 dc22 pm22 an22 cd22 ct22), sl22⟩) (c22 : PySem.W.codeIn K cd22 "_law_scripts" = true) (k22 : PySem.W.keepIn K (.ref f22) = true)
    (a23 : PySem.W.nsIn K mainGlobals "_law_refused" = some (some (.ref f23))) (l23 : K.lookup f23 = some ⟨oc23, od23, .func (PySem.W.fnOf "_law_refused" "_law_refused" (defArgs sRefused) (defBody sRefused) (defScope sRefused) .none kV23 dc23 pm23 an23 cd23 ct23), sl23⟩) (c23 : PySem.W.codeIn K cd23 "_law_refused" = true) (k23 : PySem.W.keepIn K (.ref f23) = true)
    (a24 : PySem.W.nsIn K mainGlobals "_law_behind" = some (some (.ref f24))) (l24 : K.lookup f24 = some ⟨oc24, od24, .func (PySem.W.fnOf "_law_behind" "_law_behind" (defArgs sBehind) (defBody sBehind) (defScope sBehind) .none kV24 dc24 pm24 an24 cd24 ct24), sl24⟩) (c24 : PySem.W.codeIn K cd24 "_law_behind" = true) (k24 : PySem.W.keepIn K (.ref f24) = true)
    (a25 : PySem.W.nsIn K mainGlobals "_law_after" = some (some (.ref f25))) (l25 : K.lookup f25 = some ⟨oc25, od25, .func (PySem.W.fnOf "_law_after" "_law_after" (defArgs sAfter) (defBody sAfter) (defScope sAfter) .none kV25 dc25 pm25 an25 cd25 ct25), sl25⟩) (c25 : PySem.W.codeIn K cd25 "_law_after" = true) (k25 : PySem.W.keepIn K (.ref f25) = true)
    (a26 : PySem.W.nsIn K mainGlobals "_law_begun" = some (some (.ref f26))) (l26 : K.lookup f26 = some ⟨oc26, od26, .func (PySem.W.fnOf "_law_begun" "_law_begun" (defArgs sBegun) (defBody sBegun) (defScope sBegun) .none kV26 dc26 pm26 an26 cd26 ct26), sl26⟩) (c26 : PySem.W.codeIn K cd26 "_law_begun" = true) (k26 : PySem.W.keepIn K (.ref f26) = true)
    (a27 : PySem.W.nsIn K mainGlobals "_law_left" = some (some (.ref f27))) (l27 : K.lookup f27 = some ⟨oc27, od27, .func (PySem.W.fnOf "_law_left" "_law_left" (defArgs sLeft) (defBody sLeft) (defScope sLeft) .none kV27 dc27 pm27 an27 cd27 ct27), sl27⟩) (c27 : PySem.W.codeIn K cd27 "_law_left" = true) (k27 : PySem.W.keepIn K (.ref f27) = true)
    (a28 : PySem.W.nsIn K mainGlobals "_law_reached" = some (some (.ref f28))) (l28 : K.lookup f28 = some ⟨oc28, od28, .func (PySem.W.fnOf "_law_reached" "_law_reached" (defArgs sRch) (defBody sRch) (defScope sRch) .none kV28 dc28 pm28 an28 cd28 ct28), sl28⟩) (c28 : PySem.W.codeIn K cd28 "_law_reached" = true) (k28 : PySem.W.keepIn K (.ref f28) = true)
    (a29 : PySem.W.nsIn K mainGlobals "_law_is_stuck" = some (some (.ref f29))) (l29 : K.lookup f29 = some ⟨oc29, od29, .func (PySem.W.fnOf "_law_is_stuck" "_law_is_stuck" (defArgs sLs) (defBody sLs) (defScope sLs) .none kV29 dc29 pm29 an29 cd29 ct29), sl29⟩) (c29 : PySem.W.codeIn K cd29 "_law_is_stuck" = true) (k29 : PySem.W.keepIn K (.ref f29) = true)
    (a30 : PySem.W.nsIn K mainGlobals "_law_handed" = some (some (.ref f30))) (l30 : K.lookup f30 = some ⟨oc30, od30, .func (PySem.W.fnOf "_law_handed" "_law_handed" (defArgs sHanded) (defBody sHanded) (defScope sHanded) .none kV30 dc30 pm30 an30 cd30 ct30), sl30⟩) (c30 : PySem.W.codeIn K cd30 "_law_handed" = true) (k30 : PySem.W.keepIn K (.ref f30) = true)
    (a31 : PySem.W.nsIn K mainGlobals "_law_replaced" = some (some (.ref f31))) (l31 : K.lookup f31 = some ⟨oc31, od31, .func (PySem.W.fnOf "_law_replaced" "_law_replaced" (defArgs sRep) (defBody sRep) (defScope sRep) .none kV31 dc31 pm31 an31 cd31 ct31), sl31⟩) (c31 : PySem.W.codeIn K cd31 "_law_replaced" = true) (k31 : PySem.W.keepIn K (.ref f31) = true)
    (a32 : PySem.W.nsIn K mainGlobals "_law_is_calm" = some (some (.ref f32))) (l32 : K.lookup f32 = some ⟨oc32, od32, .func (PySem.W.fnOf "_law_is_calm" "_law_is_calm" (defArgs sCalm) (defBody sCalm) (defScope sCalm) .none kV32 dc32 pm32 an32 cd32 ct32), sl32⟩) (c32 : PySem.W.codeIn K cd32 "_law_is_calm" = true) (k32 : PySem.W.keepIn K (.ref f32) = true)
    (a33 : PySem.W.nsIn K mainGlobals "_law_calmed" = some (some (.ref f33))) (l33 : K.lookup f33 = some ⟨oc33, od33, .func (PySem.W.fnOf "_law_calmed" "_law_calmed" (defArgs sLcm) (defBody sLcm) (defScope sLcm) .none kV33 dc33 pm33 an33 cd33 ct33), sl33⟩) (c33 : PySem.W.codeIn K cd33 "_law_calmed" = true) (k33 : PySem.W.keepIn K (.ref f33) = true)
    (a34 : PySem.W.nsIn K mainGlobals "_law_six" = some (some (.ref f34))) (l34 : K.lookup f34 = some ⟨oc34, od34, .func (PySem.W.fnOf "_law_six" "_law_six" (defArgs sSix) (defBody sSix) (defScope sSix) .none kV34 dc34 pm34 an34 cd34 ct34), sl34⟩) (c34 : PySem.W.codeIn K cd34 "_law_six" = true) (k34 : PySem.W.keepIn K (.ref f34) = true)
    (a35 : PySem.W.nsIn K mainGlobals "law" = some (some (.ref f35))) (l35 : K.lookup f35 = some ⟨oc35, od35, .func (PySem.W.fnOf "law" "law" (defArgs sLaw) (defBody sLaw) (defScope sLaw) .none kV35 dc35 pm35 an35 cd35 ct35), sl35⟩) (c35 : PySem.W.codeIn K cd35 "law" = true) (k35 : PySem.W.keepIn K (.ref f35) = true)
    (z_len : PySem.W.nsIn K mainGlobals "len" = some none)
    (z_int : PySem.W.nsIn K mainGlobals "int" = some none)
    (z_enumerate : PySem.W.nsIn K mainGlobals "enumerate" = some none)
    (z_bool : PySem.W.nsIn K mainGlobals "bool" = some none)
    (z_list : PySem.W.nsIn K mainGlobals "list" = some none)
    (z_tuple : PySem.W.nsIn K mainGlobals "tuple" = some none)
    (z_isinstance : PySem.W.nsIn K mainGlobals "isinstance" = some none)
    (z_all : PySem.W.nsIn K mainGlobals "all" = some none)
    (z_zip : PySem.W.nsIn K mainGlobals "zip" = some none)
    (z_range : PySem.W.nsIn K mainGlobals "range" = some none)
    (z_max : PySem.W.nsIn K mainGlobals "max" = some none)
    (z_min : PySem.W.nsIn K mainGlobals "min" = some none)
    (z_str : PySem.W.nsIn K mainGlobals "str" = some none)
    (z_repr : PySem.W.nsIn K mainGlobals "repr" = some none)
    (z_sorted : PySem.W.nsIn K mainGlobals "sorted" = some none)
    (z_sum : PySem.W.nsIn K mainGlobals "sum" = some none)
    (z_any : PySem.W.nsIn K mainGlobals "any" = some none)
    {t_NO_LOCK : Tok} (tNO_LOCK : PySem.W.nsIn K mainGlobals "NO_LOCK" = some (some (.int 0 t_NO_LOCK)))
    {t_SHARED : Tok} (tSHARED : PySem.W.nsIn K mainGlobals "SHARED" = some (some (.int 1 t_SHARED)))
    {t_RESERVED : Tok} (tRESERVED : PySem.W.nsIn K mainGlobals "RESERVED" = some (some (.int 2 t_RESERVED)))
    {t_PENDING : Tok} (tPENDING : PySem.W.nsIn K mainGlobals "PENDING" = some (some (.int 3 t_PENDING)))
    {t_EXCLUSIVE : Tok} (tEXCLUSIVE : PySem.W.nsIn K mainGlobals "EXCLUSIVE" = some (some (.int 4 t_EXCLUSIVE)))
    {aTOPENING : Addr} {oTOPENING : Option Addr} {nTOPENING : Nat} {sTOPENING : Array (Option Value)} {qOPENING0 qOPENING1 qOPENING2 : Tok} (tTOPENING : PySem.W.nsIn K mainGlobals "OPENING" = some (some (.ref aTOPENING))) (lTOPENING : K.lookup aTOPENING = some ⟨.type "tuple", oTOPENING, .seq #[.str (Str.ofString "begin") qOPENING0, .str (Str.ofString "immediate") qOPENING1, .str (Str.ofString "exclusive") qOPENING2] nTOPENING, sTOPENING⟩)
    {aTENDING : Addr} {oTENDING : Option Addr} {nTENDING : Nat} {sTENDING : Array (Option Value)} {qENDING0 qENDING1 : Tok} (tTENDING : PySem.W.nsIn K mainGlobals "ENDING" = some (some (.ref aTENDING))) (lTENDING : K.lookup aTENDING = some ⟨.type "tuple", oTENDING, .seq #[.str (Str.ofString "commit") qENDING0, .str (Str.ofString "rollback") qENDING1] nTENDING, sTENDING⟩)
    {aTOTHERS : Addr} {oTOTHERS : Option Addr} {nTOTHERS : Nat} {sTOTHERS : Array (Option Value)} {qOTHERS0 qOTHERS1 qOTHERS2 qOTHERS3 : Tok} (tTOTHERS : PySem.W.nsIn K mainGlobals "OTHERS" = some (some (.ref aTOTHERS))) (lTOTHERS : K.lookup aTOTHERS = some ⟨.type "tuple", oTOTHERS, .seq #[.str (Str.ofString "read") qOTHERS0, .str (Str.ofString "start") qOTHERS1, .str (Str.ofString "stop") qOTHERS2, .str (Str.ofString "write") qOTHERS3] nTOTHERS, sTOTHERS⟩) :
    ∃ fd : FuncData, (∀ (s : Shared) (v : Value), BindsTo s fd ⟨[v], []⟩ [("_law_script_here", v)]) ∧ ∀ base : Heap, K.In base → base.Ns mainGlobals mg → FnG l.prog w K mg base 9 fa fd ["_law_script_here"] (spLaw K) := by
  have e := hfa.symm.trans (PySem.W.mg_of X G a35)
  cases e
  have T : Tx mg := ⟨PySem.W.mg_none_of X G z_len, PySem.W.mg_none_of X G z_int, PySem.W.mg_none_of X G z_enumerate⟩
  have T2 : Ty mg := ⟨PySem.W.mg_none_of X G z_len, PySem.W.mg_none_of X G z_int, PySem.W.mg_none_of X G z_bool, PySem.W.mg_none_of X G z_list, PySem.W.mg_none_of X G z_tuple, PySem.W.mg_none_of X G z_isinstance, PySem.W.mg_none_of X G z_all, PySem.W.mg_none_of X G z_zip⟩
  have Tk0 : Tk K mg := ⟨⟨_, PySem.W.mg_of X G tNO_LOCK⟩, ⟨_, PySem.W.mg_of X G tSHARED⟩, ⟨_, PySem.W.mg_of X G tRESERVED⟩, ⟨_, PySem.W.mg_of X G tPENDING⟩, ⟨_, PySem.W.mg_of X G tEXCLUSIVE⟩, ⟨aTOPENING, PySem.W.mg_of X G tTOPENING, fun H => .inr ⟨_, _, _, lTOPENING, rfl, rfl, (by show 3 ≤ sizeLine; decide), .cons ⟨_, rfl⟩ (.cons ⟨_, rfl⟩ (.cons ⟨_, rfl⟩ .nil))⟩⟩, ⟨aTENDING, PySem.W.mg_of X G tTENDING, fun H => .inr ⟨_, _, _, lTENDING, rfl, rfl, (by show 2 ≤ sizeLine; decide), .cons ⟨_, rfl⟩ (.cons ⟨_, rfl⟩ .nil)⟩⟩, ⟨aTOTHERS, PySem.W.mg_of X G tTOTHERS, fun H => .inr ⟨_, _, _, lTOTHERS, rfl, rfl, (by show 4 ≤ sizeLine; decide), .cons ⟨_, rfl⟩ (.cons ⟨_, rfl⟩ (.cons ⟨_, rfl⟩ (.cons ⟨_, rfl⟩ .nil)))⟩⟩, PySem.W.mg_none_of X G z_max⟩
  have Tw0 : Tw mg := ⟨PySem.W.mg_none_of X G z_range, PySem.W.mg_none_of X G z_repr, PySem.W.mg_none_of X G z_sum⟩
  have D0 : Df K mg "is_list" sIsList ["thing"] := df_mk X G a0 l0 c0 k0 fun _ _ _ _ _ _ us hl => match us, hl with | [_], _ => rfl
  have D1 : Df K mg "is_script" sIsScript ["thing"] := df_mk X G a1 l1 c1 k1 fun _ _ _ _ _ _ us hl => match us, hl with | [_], _ => rfl
  have D2 : Df K mg "checked" sChecked ["scripts"] := df_mk X G a2 l2 c2 k2 fun _ _ _ _ _ _ us hl => match us, hl with | [_], _ => rfl
  have D3 : Df K mg "first_state" sFirst ["scripts"] := df_mk X G a3 l3 c3 k3 fun _ _ _ _ _ _ us hl => match us, hl with | [_], _ => rfl
  have D4 : Df K mg "resting" sRest ["reads"] := df_mk X G a4 l4 c4 k4 fun _ _ _ _ _ _ us hl => match us, hl with | [_], _ => rfl
  have D5 : Df K mg "opened_lock" sOpen ["step", "lock", "other"] := df_mk X G a5 l5 c5 k5 fun _ _ _ _ _ _ us hl => match us, hl with | [_, _, _], _ => rfl
  have D6 : Df K mg "working_lock" sWork ["step", "row", "other"] := df_mk X G a6 l6 c6 k6 fun _ _ _ _ _ _ us hl => match us, hl with | [_, _, _], _ => rfl
  have D7 : Df K mg "tried" sTried ["step", "row", "other"] := df_mk X G a7 l7 c7 k7 fun _ _ _ _ _ _ us hl => match us, hl with | [_, _, _], _ => rfl
  have D8 : Df K mg "moved" sMoved ["scripts", "state", "at"] := df_mk X G a8 l8 c8 k8 fun _ _ _ _ _ _ us hl => match us, hl with | [_, _, _], _ => rfl
  have D9 : Df K mg "waiting_ones" sWait ["scripts", "state"] := df_mk X G a9 l9 c9 k9 fun _ _ _ _ _ _ us hl => match us, hl with | [_, _], _ => rfl
  have D10 : Df K mg "way_to" sWay ["before", "state"] := df_mk X G a10 l10 c10 k10 fun _ _ _ _ _ _ us hl => match us, hl with | [_, _], _ => rfl
  have D11 : Df K mg "is_stuck_state" sIss ["scripts", "state"] := df_mk X G a11 l11 c11 k11 fun _ _ _ _ _ _ us hl => match us, hl with | [_, _], _ => rfl
  have D12 : Df K mg "stuck" sStk ["scripts"] := df_mk X G a12 l12 c12 k12 fun _ _ _ _ _ _ us hl => match us, hl with | [_], _ => rfl
  have D13 : Df K mg "choices" sCh ["pairs", "many"] := df_mk X G a13 l13 c13 k13 fun _ _ _ _ _ _ us hl => match us, hl with | [_, _], _ => rfl
  have D14 : Df K mg "with_immediate" sWi ["scripts", "pairs"] := df_mk X G a14 l14 c14 k14 fun _ _ _ _ _ _ us hl => match us, hl with | [_, _], _ => rfl
  have D15 : Df K mg "calmed" sCmd ["scripts"] := df_mk X G a15 l15 c15 k15 fun _ _ _ _ _ _ us hl => match us, hl with | [_], _ => rfl
  have D16 : Df K mg "_law_fresh" sFresh ["_law_script_here"] := df_mk X G a16 l16 c16 k16 fun _ _ _ _ _ _ us hl => match us, hl with | [_], _ => rfl
  have D17 : Df K mg "_law_fill" sFill ["_law_state"] := df_mk X G a17 l17 c17 k17 fun _ _ _ _ _ _ us hl => match us, hl with | [_], _ => rfl
  have D18 : Df K mg "_law_take" sTake ["_law_state", "_law_many"] := df_mk X G a18 l18 c18 k18 fun _ _ _ _ _ _ us hl => match us, hl with | [_, _], _ => rfl
  have D19 : Df K mg "_law_one" sOne ["_law_state", "_law_things"] := df_mk X G a19 l19 c19 k19 fun _ _ _ _ _ _ us hl => match us, hl with | [_, _], _ => rfl
  have D20 : Df K mg "_law_same" sSame ["_law_found", "_law_due"] := df_mk X G a20 l20 c20 k20 fun _ _ _ _ _ _ us hl => match us, hl with | [_, _], _ => rfl
  have D21 : Df K mg "_law_script" sScript ["_law_state", "_law_many"] := df_mk X G a21 l21 c21 k21 fun _ _ _ _ _ _ us hl => match us, hl with | [_, _], _ => rfl
  have D22 : Df K mg "_law_scripts" sScripts ["_law_state", "_law_most", "_law_many"] := df_mk X G a22 l22 c22 k22 fun _ _ _ _ _ _ us hl => match us, hl with | [_, _, _], _ => rfl
  have D23 : Df K mg "_law_refused" sRefused ["_law_word", "_law_opened", "_law_lock", "_law_top"] := df_mk X G a23 l23 c23 k23 fun _ _ _ _ _ _ us hl => match us, hl with | [_, _, _, _], _ => rfl
  have D24 : Df K mg "_law_behind" sBehind ["_law_word", "_law_opened", "_law_reads", "_law_lock"] := df_mk X G a24 l24 c24 k24 fun _ _ _ _ _ _ us hl => match us, hl with | [_, _, _, _], _ => rfl
  have D25 : Df K mg "_law_after" sAfter ["_law_scripts_here", "_law_here", "_law_at"] := df_mk X G a25 l25 c25 k25 fun _ _ _ _ _ _ us hl => match us, hl with | [_, _, _], _ => rfl
  have D26 : Df K mg "_law_begun" sBegun ["_law_scripts_here"] := df_mk X G a26 l26 c26 k26 fun _ _ _ _ _ _ us hl => match us, hl with | [_], _ => rfl
  have D27 : Df K mg "_law_left" sLeft ["_law_scripts_here", "_law_here"] := df_mk X G a27 l27 c27 k27 fun _ _ _ _ _ _ us hl => match us, hl with | [_, _], _ => rfl
  have D28 : Df K mg "_law_reached" sRch ["_law_scripts_here", "_law_tries"] := df_mk X G a28 l28 c28 k28 fun _ _ _ _ _ _ us hl => match us, hl with | [_, _], _ => rfl
  have D29 : Df K mg "_law_is_stuck" sLs ["_law_scripts_here", "_law_here"] := df_mk X G a29 l29 c29 k29 fun _ _ _ _ _ _ us hl => match us, hl with | [_, _], _ => rfl
  have D30 : Df K mg "_law_handed" sHanded ["_law_state", "_law_thing"] := df_mk X G a30 l30 c30 k30 fun _ _ _ _ _ _ us hl => match us, hl with | [_, _], _ => rfl
  have D31 : Df K mg "_law_replaced" sRep ["_law_scripts_here", "_law_pairs"] := df_mk X G a31 l31 c31 k31 fun _ _ _ _ _ _ us hl => match us, hl with | [_, _], _ => rfl
  have D32 : Df K mg "_law_is_calm" sCalm ["_law_scripts_here"] := df_mk X G a32 l32 c32 k32 fun _ _ _ _ _ _ us hl => match us, hl with | [_], _ => rfl
  have D33 : Df K mg "_law_calmed" sLcm ["_law_scripts_here"] := df_mk X G a33 l33 c33 k33 fun _ _ _ _ _ _ us hl => match us, hl with | [_], _ => rfl
  have D34 : Df K mg "_law_six" sSix ["_law_state"] := df_mk X G a34 l34 c34 k34 fun _ _ _ _ _ _ us hl => match us, hl with | [_], _ => rfl
  refine ⟨PySem.W.fnOf "law" "law" (defArgs sLaw) (defBody sLaw) (defScope sLaw) .none kV35 dc35 pm35 an35 cd35 ct35, fun s v => .of_eq rfl, fun base _ _ => ?_⟩
  have Pil := pr_isList (P := l.prog) (w := w) (base := base) D0 T2
  have Pis := pr_isScript (P := l.prog) (w := w) (base := base) D1 T2 (PySem.W.mg_none_of X G z_str) Tk0 Pil
  have Pck := pr_checked D2 T2 Pil Pis
  have Pfi := pr_first D3 T2 Tk0 Pck
  have Pre := pr_rest (P := l.prog) (w := w) (base := base) D4 Tk0
  have Pop := pr_open (P := l.prog) (w := w) (base := base) D5 Tk0
  have Pwk := pr_work D6 Tk0 Pre
  have Ptr := pr_tried D7 Tk0 Pre Pop Pwk
  have Pmo := pr_moved D8 T Tk0 Ptr
  have Pwa := pr_wait (P := l.prog) (w := w) (base := base) D9 T
  have P1 := pr_fresh (P := l.prog) (w := w) (base := base) D16
  have P2 := pr_fill (P := l.prog) (w := w) (base := base) D17 T
  have P3 := pr_take D18 T P2
  have P4 := pr_one D19 T P3
  have P5 := pr_same (P := l.prog) (w := w) (base := base) D20 T2 5
  have Psc := pr_scriptF D21 T T2 (PySem.W.mg_none_of X G z_range) (PySem.W.mg_none_of X G z_min) P3 P4
  have Pss := pr_scriptsF D22 T2 (PySem.W.mg_none_of X G z_range) P3 Psc
  have Prf := pr_refused (P := l.prog) (w := w) (base := base) D23
  have Pbe := pr_behind (P := l.prog) (w := w) (base := base) D24 T (PySem.W.mg_none_of X G z_max)
  have Paf := pr_after D25 T (PySem.W.mg_none_of X G z_max) Prf Pbe
  have Pbg := pr_begun (P := l.prog) (w := w) (base := base) D26 T2
  have Ple := pr_left (P := l.prog) (w := w) (base := base) D27 T (PySem.W.mg_none_of X G z_range)
  have Pha := pr_handed D30 T2 P3 3
  have Pwy := pr_way (P := l.prog) (w := w) (base := base) D10 T2
  have Piss := pr_iss D11 T2 Pwa Pmo
  have Prs := pr_stk D12 T2 (PySem.W.mg_none_of X G z_sorted) Pck Pfi Pwa Pmo Pwy Piss
  have Prc := pr_rch D28 T2 Pbg Ple Paf
  have Pls := pr_ls D29 T2 Ple Paf
  have Pch := pr_ch (P := l.prog) (w := w) (base := base) D13 T
  have Pwi := pr_wi (P := l.prog) (w := w) (base := base) D14 T T2
  have Pcm := pr_cmd D15 T (PySem.W.mg_none_of X G z_range) Pck Pch Pwi Prs
  have Prp := pr_rep (P := l.prog) (w := w) (base := base) D31 T T2
  have Pca := pr_calm D32 (PySem.W.mg_none_of X G z_any) Prc Pls
  have Plc := pr_lcm D33 T T2 (PySem.W.mg_none_of X G z_range) (PySem.W.mg_none_of X G z_sorted) Prp Pca
  have Psx := pr_six D34 T T2 (PySem.W.mg_none_of X G z_range) P4
  exact ok_law (fun_mk l35 c35 k35) T2 Tw0 P1 P3 Pss Psx Pha Plc Pcm P5 Prs
theorem walk {l : PySem.W.OpenLaw} {q : Program} {loose : List Str} {XP : (Str → Option Value) → Heap → Prop} {YP : World → Heap → Prop} {d : DefRec} {K : Params → PySem.W.Frag} (hn : l.most = some 63) (hdf : d.params.defaults = [])
    (hY : ∀ (w : World) (h : Heap), YP w h → (K w.params).In h)
    (F : ∀ (w : World) (mg : Str → Option Value) (fa : Addr) (h : Heap), (K w.params).In h → h.Ns mainGlobals mg → mg d.name = some (.ref fa) →
      ∃ fd : FuncData, (∀ (s : Shared) (u : Value), BindsTo s fd ⟨[u], []⟩ [("_law_script_here", u)]) ∧ ∀ base : Heap, (K w.params).In base → base.Ns mainGlobals mg → FnG l.prog w (K w.params) mg base 9 fa fd ["_law_script_here"] (spLaw (K w.params))) :
    PySem.W.WalkO q loose XP YP l.row.toRowW d [] (fun f vs => PySem.call f vs) :=
  walk_ofG (n := 63) (k := 9) (x := "_law_script_here") (sp := fun w => spLaw (K w.params)) hn (by decide) hdf ⟨rfl, by decide, by decide⟩ hY F (fun _ _ a ns hl _ hS => ⟨a, ns, rfl, hS, hl, fun _ => rfl⟩)
end C83
open PySem PySem.W PyProof.Rows
set_option maxRecDepth 100000 in
set_option maxHeartbeats 0 in
theorem PySem.Challenge.cw_cursorhouse_k83_whole_calmed_scripts_holds : PySem.Challenge.rw_cursorhouse_k83_whole_calmed_scripts.Holds := by
  w_on; o_law; k_head; (case hw => w_witness2)
  k_fill
  refine C83.walk (l := PySem.Challenge.rw_cursorhouse_k83_whole_calmed_scripts) rfl rfl (fun w h Y => PySem.W.kIn_of Y) ?F
  case F =>
    intro w mg fa h KX G hmg
    refine' C83.all_mk KX G hmg ?a0 ?l0 ?c0 ?k0 ?a1 ?l1 ?c1 ?k1 ?a2 ?l2 ?c2 ?k2 ?a3 ?l3 ?c3 ?k3 ?a4 ?l4 ?c4 ?k4 ?a5 ?l5 ?c5 ?k5 ?a6 ?l6 ?c6 ?k6 ?a7 ?l7 ?c7 ?k7 ?a8 ?l8 ?c8 ?k8 ?a9 ?l9 ?c9 ?k9 ?a10 ?l10 ?c10 ?k10 ?a11 ?l11 ?c11 ?k11 ?a12 ?l12 ?c12 ?k12 ?a13 ?l13 ?c13 ?k13 ?a14 ?l14 ?c14 ?k14 ?a15 ?l15 ?c15 ?k15 ?a16 ?l16 ?c16 ?k16 ?a17 ?l17 ?c17 ?k17 ?a18 ?l18 ?c18 ?k18 ?a19 ?l19 ?c19 ?k19 ?a20 ?l20 ?c20 ?k20 ?a21 ?l21 ?c21 ?k21 ?a22 ?l22 ?c22 ?k22 ?a23 ?l23 ?c23 ?k23 ?a24 ?l24 ?c24 ?k24 ?a25 ?l25 ?c25 ?k25 ?a26 ?l26 ?c26 ?k26 ?a27 ?l27 ?c27 ?k27 ?a28 ?l28 ?c28 ?k28 ?a29 ?l29 ?c29 ?k29 ?a30 ?l30 ?c30 ?k30 ?a31 ?l31 ?c31 ?k31 ?a32 ?l32 ?c32 ?k32 ?a33 ?l33 ?c33 ?k33 ?a34 ?l34 ?c34 ?k34 ?a35 ?l35 ?c35 ?k35 ?z_len ?z_int ?z_enumerate ?z_bool ?z_list ?z_tuple ?z_isinstance ?z_all ?z_zip ?z_range ?z_max ?z_min ?z_str ?z_repr ?z_sorted ?z_sum ?z_any ?tNO_LOCK ?tSHARED ?tRESERVED ?tPENDING ?tEXCLUSIVE ?tTOPENING ?lTOPENING ?tTENDING ?lTENDING ?tTOTHERS ?lTOTHERS
    (case a0 => k_is)
    (case l0 => k_is)
    (case c0 => k_is)
    (case k0 => k_is)
    (case a1 => k_is)
    (case l1 => k_is)
    (case c1 => k_is)
    (case k1 => k_is)
    (case a2 => k_is)
    (case l2 => k_is)
    (case c2 => k_is)
    (case k2 => k_is)
    (case a3 => k_is)
    (case l3 => k_is)
    (case c3 => k_is)
    (case k3 => k_is)
    (case a4 => k_is)
    (case l4 => k_is)
    (case c4 => k_is)
    (case k4 => k_is)
    (case a5 => k_is)
    (case l5 => k_is)
    (case c5 => k_is)
    (case k5 => k_is)
    (case a6 => k_is)
    (case l6 => k_is)
    (case c6 => k_is)
    (case k6 => k_is)
    (case a7 => k_is)
    (case l7 => k_is)
    (case c7 => k_is)
    (case k7 => k_is)
    (case a8 => k_is)
    (case l8 => k_is)
    (case c8 => k_is)
    (case k8 => k_is)
    (case a9 => k_is)
    (case l9 => k_is)
    (case c9 => k_is)
    (case k9 => k_is)
    (case a10 => k_is)
    (case l10 => k_is)
    (case c10 => k_is)
    (case k10 => k_is)
    (case a11 => k_is)
    (case l11 => k_is)
    (case c11 => k_is)
    (case k11 => k_is)
    (case a12 => k_is)
    (case l12 => k_is)
    (case c12 => k_is)
    (case k12 => k_is)
    (case a13 => k_is)
    (case l13 => k_is)
    (case c13 => k_is)
    (case k13 => k_is)
    (case a14 => k_is)
    (case l14 => k_is)
    (case c14 => k_is)
    (case k14 => k_is)
    (case a15 => k_is)
    (case l15 => k_is)
    (case c15 => k_is)
    (case k15 => k_is)
    (case a16 => k_is)
    (case l16 => k_is)
    (case c16 => k_is)
    (case k16 => k_is)
    (case a17 => k_is)
    (case l17 => k_is)
    (case c17 => k_is)
    (case k17 => k_is)
    (case a18 => k_is)
    (case l18 => k_is)
    (case c18 => k_is)
    (case k18 => k_is)
    (case a19 => k_is)
    (case l19 => k_is)
    (case c19 => k_is)
    (case k19 => k_is)
    (case a20 => k_is)
    (case l20 => k_is)
    (case c20 => k_is)
    (case k20 => k_is)
    (case a21 => k_is)
    (case l21 => k_is)
    (case c21 => k_is)
    (case k21 => k_is)
    (case a22 => k_is)
    (case l22 => k_is)
    (case c22 => k_is)
    (case k22 => k_is)
    (case a23 => k_is)
    (case l23 => k_is)
    (case c23 => k_is)
    (case k23 => k_is)
    (case a24 => k_is)
    (case l24 => k_is)
    (case c24 => k_is)
    (case k24 => k_is)
    (case a25 => k_is)
    (case l25 => k_is)
    (case c25 => k_is)
    (case k25 => k_is)
    (case a26 => k_is)
    (case l26 => k_is)
    (case c26 => k_is)
    (case k26 => k_is)
    (case a27 => k_is)
    (case l27 => k_is)
    (case c27 => k_is)
    (case k27 => k_is)
    (case a28 => k_is)
    (case l28 => k_is)
    (case c28 => k_is)
    (case k28 => k_is)
    (case a29 => k_is)
    (case l29 => k_is)
    (case c29 => k_is)
    (case k29 => k_is)
    (case a30 => k_is)
    (case l30 => k_is)
    (case c30 => k_is)
    (case k30 => k_is)
    (case a31 => k_is)
    (case l31 => k_is)
    (case c31 => k_is)
    (case k31 => k_is)
    (case a32 => k_is)
    (case l32 => k_is)
    (case c32 => k_is)
    (case k32 => k_is)
    (case a33 => k_is)
    (case l33 => k_is)
    (case c33 => k_is)
    (case k33 => k_is)
    (case a34 => k_is)
    (case l34 => k_is)
    (case c34 => k_is)
    (case k34 => k_is)
    (case a35 => k_is)
    (case l35 => k_is)
    (case c35 => k_is)
    (case k35 => k_is)
    (case z_len => k_is)
    (case z_int => k_is)
    (case z_enumerate => k_is)
    (case z_bool => k_is)
    (case z_list => k_is)
    (case z_tuple => k_is)
    (case z_isinstance => k_is)
    (case z_all => k_is)
    (case z_zip => k_is)
    (case z_range => k_is)
    (case z_max => k_is)
    (case z_min => k_is)
    (case z_str => k_is)
    (case z_repr => k_is)
    (case z_sorted => k_is)
    (case z_sum => k_is)
    (case z_any => k_is)
    (case tNO_LOCK => k_is)
    (case tSHARED => k_is)
    (case tRESERVED => k_is)
    (case tPENDING => k_is)
    (case tEXCLUSIVE => k_is)
    (case tTOPENING => k_is)
    (case lTOPENING => k_is)
    (case tTENDING => k_is)
    (case lTENDING => k_is)
    (case tTOTHERS => k_is)
    (case lTOTHERS => k_is)
#print axioms PySem.Challenge.cw_cursorhouse_k83_whole_calmed_scripts_holds
