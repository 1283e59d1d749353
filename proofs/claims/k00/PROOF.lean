import PyProof.Rows.All
import Wide.All
import OpenK.AllK
import Wide.FinOn
import HandS.ForMost
import HandS.Walk
import HandS.Evl
import HandS.IsInst
import HandS.StrMore
import HandS.Flow
import HandS.Style
import HandS.Replace
import KE.GoesMore
import HandS.Zip
import HandS.ForExc
import HandS.ExcInit
import HandS.ExcIs
import HandS.ExcField
import HandS.TryMany
import KE.KExcIs
import HandS.Defaults
import PySem.Challenge.RW_cursorhouse_k00_errors_made
set_option Elab.async false
set_option maxRecDepth 100000
set_option maxHeartbeats 4000000
/-! Own rules beside the layer: enumerate over a tuple. -/
namespace My
open PySem L2 PyProof.Rows
theorem meets_enumT (l : Addr) (items : Array Value) (n : Nat) (dct : Option Addr) (sl : Array (Option Value)) :
    Meets (Builtin.«enumerate.__new__» ⟨[.type "enumerate", .ref l], []⟩) (fun _ R s => s.heap.get? l = some { cls := .type "tuple", dict := dct, data := .seq items n, slots := sl } ∧
      R (.ok (.ret (.ref (s.heap.push { cls := .type "tuple_iterator", data := .fields #[.ref l, .int 0 0] }).objs.size)))
        { s with heap := (s.heap.push { cls := .type "tuple_iterator", data := .fields #[.ref l, .int 0 0] }).push { cls := .type "enumerate", data := .fields #[.none, .bool false, .ref s.heap.objs.size, rawInt 0, .none, .none] } }) :=
  .of_wp fun prog w A R s h => by
    obtain ⟨hp, g, d, tk, os⟩ := s
    obtain ⟨hl, h⟩ := h
    have hsub := sub_enumerate
    have hL : Heap.IsTuple (Shared.heap ⟨hp, g, d, tk, os⟩) l items := ⟨_, hl, rfl, n, rfl⟩
    wp_walk using AutoSeq1.wpAny_loadPart' hl
    refine wpAny_stack_any fun st => wpAny_pure ?_
    split
    · rename_i c _ _ _ _ _
      cases (c == Value.type "enumerate")
      · wp_walk using AutoSeq1.wpAny_loadPart' hl, wpAny_pyIter_tuple hL
        exact ⟨_, rfl, h⟩
      · wp_walk using AutoSeq1.wpAny_loadPart' hl, wpAny_pyIter_tuple hL
        exact ⟨_, rfl, h⟩
    · wp_walk using AutoSeq1.wpAny_loadPart' hl, wpAny_pyIter_tuple hL
      exact ⟨_, rfl, h⟩
section
variable {prog : Program} {w : World} {A : Around} {E : Value → Shared → Prop} {s : Shared}
theorem call_enumT {l : Addr} {items : Array Value} {Q : Value → Shared → Prop} (hL : s.heap.IsTuple l items)
    (h : ∀ h', IsEnum h' (s.heap.objs.size + 1) s.heap.objs.size 0 .none → h'.IsTupleIter s.heap.objs.size l 0 → h'.objs.size = s.heap.objs.size + 2 →
      (∀ b o, s.heap.get? b = some o → h'.get? b = some o) → Q (.ref (s.heap.objs.size + 1)) { s with heap := h' }) :
    wpAny (model prog w) A (call (.type "enumerate") [.ref l]) Q E s := by
  obtain ⟨⟨c, dct, dt, sl⟩, hl, hc, n, hd⟩ := hL
  replace hc : c = .type "tuple" := hc
  replace hd : dt = .seq items n := hd
  subst hc hd
  refine callType_new F.called_enumerate (by decide) (F.typeCall_enumerate_1 _) (F.newCall_enumerate_1 _) (fun obj => F.args_object_init_2 obj _) F.entry_enumerate_new
    (meets_enumT l items n dct sl) ⟨hl, ?_⟩
  have hz : (s.heap.push { cls := .type "tuple_iterator", data := .fields #[.ref l, .int 0 0] }).objs.size = s.heap.objs.size + 1 := Heap.size_push ..
  show _ ∧ _
  rw [hz]
  have he : IsEnum ((s.heap.push { cls := .type "tuple_iterator", data := .fields #[.ref l, .int 0 0] }).push
      { cls := .type "enumerate", data := .fields #[.none, .bool false, .ref s.heap.objs.size, rawInt 0, .none, .none] }) (s.heap.objs.size + 1) s.heap.objs.size 0 .none := by
    have := Heap.get?_push_size (s.heap.push { cls := .type "tuple_iterator", data := .fields #[.ref l, .int 0 0] })
      (o := { cls := .type "enumerate", data := .fields #[.none, .bool false, .ref s.heap.objs.size, rawInt 0, .none, .none] }) rfl
    rw [hz] at this
    exact this
  exact ⟨⟨_, he, rfl⟩, h _ he ⟨_, Heap.get?_push_of_some _ (Heap.get?_push_size _ rfl), rfl, rfl⟩ (by rw [Heap.size_push, hz]) fun b o x => Heap.get?_push_of_some _ (Heap.get?_push_of_some _ x)⟩
theorem enumT_end {e it l : Addr} {i : Nat} {items : Array Value} {old : Value} {Q : Option Value → Shared → Prop} (hh : A.handled = none)
    (he : IsEnum s.heap e it i old) (hit : s.heap.IsTupleIter it l i) (hl : s.heap.IsTuple l items) (hx : items[i]? = none)
    (hQ : ∀ h', Heap.ExtBut it s.heap h' → Q none { s with heap := h' }) : wpAny (model prog w) A (pyNext (.ref e)) Q E s := by
  have tE : s.TypeIs (.ref e) "enumerate" := ⟨_, he, rfl⟩
  unfold pyNext
  refine wpAny_bind (wpAny_attempt (wpAny_callSpecial?_slot (name := Str.ofString "__next__") tE F.slot_enumerate_next
    (wpAny_call_entry F.slot_enumerate_next tE F.entry_enumerate_next ?_ (F.args_enumerate_next_1 _))))
  show wpAny _ _ (field (.ref e) 2 >>= _) _ _ _
  refine wpAny_bind (wpAny_field he rfl (x := .ref it) rfl ?_)
  refine wpAny_bind (wpAny_nextOf_tuple_end hh hit hl hx fun h' x he' hx' => ?_)
  obtain ⟨o, ho, hc⟩ := hx'
  refine wpAny_bind (wpAny_isInstance (T := "StopIteration") (b := true) ⟨o, ho, hc⟩ isSubtype_stop ?_)
  exact wpAny_pure (hQ _ he')
end
/-- the tuple at a as it stands at each turn, each item in a new pair -/
def Iet (K : PySem.W.Frag) (a : Addr) : It :=
  ⟨fun i H => ∃ (xs : List V) (x : V), SqT K H a xs ∧ xs[i]? = some x, fun i H v H' => ∃ T x, v = .ref T ∧ H T = none ∧ H' = upd H T (.tup [.int (i : Nat), x]) ∧ ∀ xs, SqT K H a xs → xs[i]? = some x, fun i H => ∃ xs : List V, SqT K H a xs ∧ xs.length ≤ i⟩
theorem turn_enumT {P : Program} {w : World} {K : PySem.W.Frag} {elts : List Expr} {kk : Nat} {tpos : Pos} (a e it : Addr) :
    Turn P w K (.Tuple elts kk tpos) (Iet K a) [e, it] e (fun i h => (∃ old, IsEnum h e it ((i : Nat) : Int) old) ∧ h.IsTupleIter it a i ∧ e ≠ it) where
  mem := by simp
  obj := fun i h st b hb => by
    obtain ⟨⟨old, he⟩, ⟨o, ho, hc, hd⟩, _⟩ := st
    have e' : b = e ∨ b = it := by simpa using hb
    rcases e' with z | z
    · rw [z]
      exact ⟨_, he, fun v q => nomatch q⟩
    · rw [z]
      exact ⟨o, ho, fun v q => by rw [hd] at q; cases q⟩
  keep := fun i h h' st k => let ⟨⟨old, he⟩, hi, hne⟩ := st; ⟨⟨old, k e (by simp) _ he⟩, hi.at fun o q => k it (by simp) o q, hne⟩
  item := by
    intro X hP hw hK hc i pins s σ H E I hf st hg
    subst hP hw hK
    obtain ⟨⟨old, he⟩, hit, hne⟩ := st
    obtain ⟨xs, x, hq, hx⟩ := hg
    obtain ⟨its, rv, p, hz⟩ := I.tuple hq
    obtain ⟨u, hu, ru⟩ := rv.get hx
    have hel : e < s.heap.objs.size := Heap.lt_size he
    have hil : it < s.heap.objs.size := by
      obtain ⟨_, q, _⟩ := hit
      exact Heap.lt_size q
    have hlt : i < its.toArray.size := by
      have := (List.getElem?_eq_some_iff.mp hu).1
      simpa using this
    have hai : a ≠ it := by
      intro q
      obtain ⟨o, ho, hc', _⟩ := p
      obtain ⟨o2, ho2, hc2, _⟩ := hit
      rw [q, ho2] at ho
      cases ho
      rw [hc2] at hc'
      injection hc' with e1
      exact absurd e1 (by decide)
    have hae : a ≠ e := by
      intro q
      obtain ⟨o, ho, hc', _⟩ := p
      rw [q, he] at ho
      cases ho
      injection (show Value.type "enumerate" = Value.type "tuple" from hc') with e1
      exact absurd e1 (by decide)
    refine wpAny_pyNext_enum_itemD (Draws.tuple (A := X.A.in1) (show X.A.in1.handled = none from I.ok.hd hc) it a hai its.toArray) he ⟨hit, p⟩ hlt hne (by simp [hne, Ne.symm hae]) fun y h' tk hy ho hit' hT hsz hk => ?_
    have hyu : y = u := by
      have h1 : its.toArray[i]? = some u := by simpa using hu
      rw [h1] at hy
      exact (Option.some.inj hy).symm
    subst hyu
    refine ⟨_, rfl, wpAny_letOwnedTupleGo_enum (s := { s with heap := h', toks := tk + 1 }) ho fun h'' he' sb => ?_⟩
    have hT2 : h''.get? s.heap.objs.size = some { cls := .type "tuple", data := .seq #[.int i tk, y] } := (sb.2 _ (Nat.ne_of_gt hel)).trans hT
    have new : ObjOk X.prog X.w (upd H s.heap.objs.size (.tup [.int (i : Nat), x])) h'' s.heap.objs.size (.tup [.int (i : Nat), x]) :=
      ⟨by show 2 ≤ sizeLine; decide, [.int i tk, y], .cons ⟨_, rfl⟩ (.cons ru .nil), ⟨_, hT2, rfl, _, rfl⟩⟩
    have I1 : Inv X pins σ (upd H s.heap.objs.size (.tup [.int (i : Nat), x])) { s with heap := h'', toks := tk + 1 } :=
      I.turnedNew (ch := [e, it]) (fun b ob hb q => (sb.2 b (fun z => hb (by simp [z]))).trans (hk b ob (fun z => hb (by simp [z])) (fun z => hb (by simp [z])) q)) hf (Nat.le_refl _) new
    refine ⟨.ref s.heap.objs.size, _, I1, rfl, ⟨_, x, rfl, I.hok.fresh (Nat.le_refl _), rfl, fun ys hy => by rw [I.tuple_inj hy hq]; exact hx⟩, ⟨⟨y, ?_⟩, hit'.1.at fun o q => (sb.2 it (Ne.symm hne)).trans q, hne⟩, fun b hb => ?_⟩
    · have e1 : ((i + 1 : Nat) : Int) = (i : Int) + 1 := by omega
      rw [e1]
      exact he'
    · have hb' : b < s.heap.objs.size := by
        have e' : b = e ∨ b = it := by simpa using hb
        rcases e' with z | z
        · rw [z]
          exact hel
        · rw [z]
          exact hil
      rw [upd_ne (Nat.ne_of_lt hb')]
      exact (hf b hb).1
  done := by
    intro X hP hw hK hc i pins s σ H E I hf st hg
    subst hP hw hK
    obtain ⟨⟨old, he⟩, hit, hne⟩ := st
    obtain ⟨xs, hq, hx⟩ := hg
    obtain ⟨its, rv, p, hz⟩ := I.tuple hq
    obtain ⟨f0, f1, f2, f3, f4, f5⟩ := hf it (by simp)
    have hl := rv.length
    exact enumT_end (I.ok.hd hc) he hit p (by simp; omega) fun h' eb => ⟨rfl, I.turned (t' := s.toks) (fun b o hb q => eb b o hb q) f0 f1 f3 f4 f5⟩
  self := fun A i s Q E st h => let ⟨⟨_, he⟩, _⟩ := st; wpAny_pyIter_enum he h
def iEnumT (K : PySem.W.Frag) (ta : TA) : TI := fun σ H R => ta σ H fun vs H1 => ∃ a xs, vs = [.ref a] ∧ SqT K H1 a xs ∧ R (Iet K a) H1
theorem pi_enumT {X : Cx} {e : Expr} {ta : TA} {p pos tpos : Pos} {elts : List Expr} {kk : Nat} (hg : Gl X "enumerate") (hm : X.mg "enumerate" = none) (ha : PA X [e] ta) (hs : starEach [e] X.env = [(false, eval e X.env)] := by rfl) :
    PI X (.Tuple elts kk tpos) (.Call (.Name "enumerate" p) [e] [] pos) (iEnumT X.K ta) := by
  refine ⟨fun pins s σ H R I h => ?_⟩
  refine Call_ (ld_blt I hg hm boot_enumerate (PyProof.Rows.callWith_type1 (thn (ha.run pos pins s σ H _ I h) fun us s1 ⟨vs, H1, I1, r1, q1⟩ => ?_) hs rfl))
  obtain ⟨a, xs, ex, hq, q⟩ := q1
  subst ex
  cases r1 with
  | cons r rr =>
    cases rr
    cases r
    obtain ⟨its, rv, p', hz⟩ := I1.tuple hq
    refine call_enumT (show s1.heap.IsTuple a its.toArray from p') fun h' he hit hsz hk => wpAny_pyIter_enum he ?_
    have I2 : Inv X pins σ H1 { s1 with heap := h' } := I1.kept (t' := s1.toks) hk
    refine ⟨s1.heap.objs.size + 1, [s1.heap.objs.size + 1, s1.heap.objs.size], _, _, H1, rfl, I2, turn_enumT a (s1.heap.objs.size + 1) s1.heap.objs.size, ⟨⟨.none, he⟩, hit, Nat.succ_ne_self _⟩, fun b hb => ?_, q⟩
    have e' : b = s1.heap.objs.size + 1 ∨ b = s1.heap.objs.size := by simpa using hb
    have hle : s1.heap.objs.size ≤ b := by
      rcases e' with z | z
      · rw [z]
        exact Nat.le_add_right _ _
      · rw [z]
        exact Nat.le_refl _
    exact I1.fpOk hle (I1.hok.fresh hle)
theorem walk_enumT {K : PySem.W.Frag} {a : Addr} {xs : List V} : Walk (Iet K a) xs.length (fun H => SqT K H a xs) (YPair (fun i => some (.int (i : Nat))) (fun i => xs[i]?)) :=
  ⟨fun i H hi h => ⟨xs, xs[i], h, by simp [hi]⟩, fun H h => ⟨xs, h, Nat.le_refl _⟩, fun i H v H' hi h y => by
    obtain ⟨T, x, e, f, g, q⟩ := y
    exact ⟨T, .int (i : Nat), x, e, f, g, rfl, q xs h⟩⟩
end My

set_option Elab.async false
set_option maxRecDepth 100000
set_option maxHeartbeats 4000000
set_option linter.all false
/-! A def of the text and what it promises, by its name alone. -/
namespace My
open PySem PySem.Spec PyProof.Rows L2
/-- the def x of the text stands at its name, with parameters ps and no defaults -/
def Df (K : PySem.W.Frag) (mg : Str → Option Value) (x : Str) (st : Stmt) (ps : List Str) : Prop :=
  ∃ f fd, Fun K x x st f fd ∧ Binds K fd ps [] ∧ mg x = some (.ref f)
/-- the def that stands at the name x keeps the promise sp at level k -/
def Pr (P : Program) (w : World) (K : PySem.W.Frag) (mg : Str → Option Value) (base : Heap) (k : Nat) (x : Str) (ps : List Str) (sp : Sp) : Prop :=
  ∃ f fd, FnOk P w K mg base CX0 k f fd ps sp ∧ mg x = some (.ref f) ∧ PySem.W.keepIn K (.ref f) = true ∧ Binds K fd ps []
theorem pe_callP {X : Cx} {k : Nat} {x : Str} {ps : List Str} {sp : Sp} {e : Expr} {es : List Expr} {t : TA} {p pos : Pos}
    (h : Pr X.prog X.w X.K X.mg X.base k x ps sp) (hr : Room k X.A) (hg : Gl X x) (ha : PA X (e :: es) t)
    (hdb : (x == ("__debug__" : Str)) = false := by decide) (he : starEach (e :: es) X.env = (false, eval e X.env) :: starEach es X.env := by rfl) (hpl : (backTo pos (starEach es X.env)).any (·.1) = false := by rfl) :
    PE X (.Call (.Name x p) (e :: es) [] pos) (tCall sp [] E0 t) := by
  obtain ⟨f, fd, F, hm, hk, hb⟩ := h
  exact pe_call F hr hg hm hk hb .nil pass0 ha hdb he hpl
theorem Df.pr {P : Program} {w : World} {K : PySem.W.Frag} {mg : Str → Option Value} {base : Heap} {x : Str} {st : Stmt} {N ps : List Str} {k : Nat} {sp : Sp}
    (D : Df K mg x st ps) (S : FnScope N ps (defScope st)) (len : ∀ vs H Q E, sp vs H Q E → vs.length = ps.length)
    (hbody : ∀ (f : Addr) (cdv : Value) (A : Around) (outer : List Env) (s : Shared) (H : Hp) (vs : List V) (Q : VK) (E : XK), Room k (A.deeper (envOfC x (defScope st) s.heap.objs.size f cdv)) → sp vs H Q E →
      ∃ t, PSs (cxOf CX0 P w K mg base N x (defScope st) f cdv A outer s H E).nox (defBody st) t ∧ t { nx := fun _ H' => Q .non H', rt := Q } (start N vs) H) :
    Pr P w K mg base (k + 1) x ps sp := by
  obtain ⟨f, fd, F, b, g⟩ := D
  exact ⟨f, fd, F.ok S len (hbody f), g, F.kp, b⟩
/-- all but the object at p stays -/
def But (p : Addr) (H H' : Hp) : Prop := ∀ b o, H b = some o → b ≠ p → H' b = some o
theorem But.refl (p : Addr) (H : Hp) : But p H H := fun _ _ e _ => e
theorem But.trans {p : Addr} {H H1 H2 : Hp} (a : But p H H1) (b : But p H1 H2) : But p H H2 := fun x o e n => b x o (a x o e n) n
theorem But.upd {p : Addr} {H H1 : Hp} {o : HO} (a : But p H H1) : But p H (upd H1 p o) := fun x u e n => by
  rw [upd_ne n]
  exact a x u e n
theorem But.new {p q : Addr} {H H1 : Hp} {o : HO} (a : But p H H1) (h : H1 q = none) : But p H (L2.upd H1 q o) := fun x u e n => by
  rw [upd_ne (ne_of_none (a x u e n) h)]
  exact a x u e n
/-- the law's own drawing state at st: cells at c (the script's numbers), the rest open -/
def Drw (H : Hp) (st c : Addr) (ns : List Int) : Prop :=
  H c = some (.lst (ns.map V.int)) ∧ ∃ (n v : Int) (b : Bool), 0 ≤ n ∧ H st = some (.lst [.ref c, .int n, .int v, .bl b])
theorem Drw.ne {H : Hp} {st c : Addr} {ns : List Int} (h : Drw H st c ns) : c ≠ st := by
  obtain ⟨hc, n, v, b, _, hs⟩ := h
  refine ne_of hc hs fun e => ?_
  injection e with e
  cases ns with
  | nil => cases e
  | cons a r =>
    injection e with e1 _
    cases e1
theorem Drw.put {H : Hp} {st c : Addr} {ns : List Int} (h : Drw H st c ns) {n v : Int} {b : Bool} (h0 : 0 ≤ n) : Drw (L2.upd H st (.lst [.ref c, .int n, .int v, .bl b])) st c ns :=
  ⟨by rw [upd_ne h.ne]; exact h.1, n, v, b, h0, upd_same⟩
theorem Drw.new {H : Hp} {st c q : Addr} {ns : List Int} {o : HO} (h : Drw H st c ns) (hq : H q = none) : Drw (L2.upd H q o) st c ns := by
  obtain ⟨hc, n, v, b, h0, hs⟩ := h
  exact ⟨by rw [upd_ne (ne_of_none hc hq)]; exact hc, n, v, b, h0, by rw [upd_ne (ne_of_none hs hq)]; exact hs⟩
theorem Drw.but {H H' : Hp} {st c : Addr} {ns : List Int} (h : Drw H st c ns) {n v : Int} {b : Bool} (h0 : 0 ≤ n) (hb : But st H H') (hs : H' st = some (.lst [.ref c, .int n, .int v, .bl b])) : Drw H' st c ns :=
  ⟨hb _ _ h.1 h.ne, n, v, b, h0, hs⟩
/-- a test whose both answers leave the heap as it is -/
theorem tt_any {c : TT} {σ : L2.St} {H : Hp} {K : Bool → Hp → Prop} (h : ∀ K' : Bool → Hp → Prop, K' true H → K' false H → c σ H K') (hT : K true H) (hF : K false H) : c σ H K := h K hT hF
theorem ite3 {c : Prop} [Decidable c] {K : Bool → Hp → Prop} {H : Hp} (a : c → K true H) (b : ¬ c → K false H) : K (decide c) H := by
  by_cases h : c
  · rw [decide_eq_true h]
    exact a h
  · rw [decide_eq_false h]
    exact b h
end My

set_option Elab.async false
set_option maxRecDepth 100000
set_option maxHeartbeats 4000000
set_option linter.all false
/-! Data that stands in the heap, apart from one object m that may change. -/
namespace My
open PySem PySem.Spec PyProof.Rows L2
mutual
inductive At (m : Addr) (H : Hp) : V → PyData → Prop
  | non : At m H .non .none
  | bl (b : Bool) : At m H (.bl b) (.bool b)
  | int (i : Int) : At m H (.int i) (.int i)
  | str (x : Str) : At m H (.str x) (.str x)
  | lst {a : Addr} {xs : List V} {ds : List PyData} : a ≠ m → H a = some (.lst xs) → AtAll m H xs ds → At m H (.ref a) (.list ds)
  | tup {a : Addr} {xs : List V} {ds : List PyData} : a ≠ m → H a = some (.tup xs) → AtAll m H xs ds → At m H (.ref a) (.tuple ds)
inductive AtAll (m : Addr) (H : Hp) : List V → List PyData → Prop
  | nil : AtAll m H [] []
  | cons {v : V} {vs : List V} {d : PyData} {ds : List PyData} : At m H v d → AtAll m H vs ds → AtAll m H (v :: vs) (d :: ds)
end
mutual
theorem At.mono {m : Addr} {H H' : Hp} (b : But m H H') : ∀ {v : V} {d : PyData}, At m H v d → At m H' v d
  | _, _, .non => .non
  | _, _, .bl k => .bl k
  | _, _, .int i => .int i
  | _, _, .str x => .str x
  | _, _, .lst n h q => .lst n (b _ _ h n) (AtAll.mono b q)
  | _, _, .tup n h q => .tup n (b _ _ h n) (AtAll.mono b q)
theorem AtAll.mono {m : Addr} {H H' : Hp} (b : But m H H') : ∀ {vs : List V} {ds : List PyData}, AtAll m H vs ds → AtAll m H' vs ds
  | _, _, .nil => .nil
  | _, _, .cons h q => .cons (At.mono b h) (AtAll.mono b q)
end
mutual
theorem At.dp {K : PySem.W.Frag} {m : Addr} {H : Hp} : ∀ {v : V} {d : PyData}, At m H v d → Dp K H v d
  | _, _, .non => .non
  | _, _, .bl k => .bl k
  | _, _, .int i => .int i
  | _, _, .str x => .str x
  | _, _, .lst n h q => .lst (SqL.of h) (AtAll.dp q)
  | _, _, .tup n h q => .tup (SqT.of h) (AtAll.dp q)
theorem AtAll.dp {K : PySem.W.Frag} {m : Addr} {H : Hp} : ∀ {vs : List V} {ds : List PyData}, AtAll m H vs ds → DpAll K H vs ds
  | _, _, .nil => .nil
  | _, _, .cons h q => .cons (At.dp h) (AtAll.dp q)
end
theorem Same.but {m : Addr} {H H' : Hp} (s : Same H H') : But m H H' := fun b o e _ => s b o e
theorem AtAll.length {m : Addr} {H : Hp} : ∀ {vs : List V} {ds : List PyData}, AtAll m H vs ds → vs.length = ds.length
  | _, _, .nil => rfl
  | _, _, .cons _ q => by rw [List.length_cons, List.length_cons, AtAll.length q]
theorem AtAll.get {m : Addr} {H : Hp} : ∀ {vs : List V} {ds : List PyData} {i : Nat} {v : V}, AtAll m H vs ds → vs[i]? = some v → ∃ d, ds[i]? = some d ∧ At m H v d
  | _, _, _, _, .nil, e => by simp at e
  | _, _, 0, _, .cons h _, e => by
    simp at e
    subst e
    exact ⟨_, rfl, h⟩
  | _, _, i + 1, v, .cons _ q, e => by
    obtain ⟨d, h1, h2⟩ := AtAll.get (i := i) (v := v) q (by simpa using e)
    exact ⟨d, by simpa using h1, h2⟩
theorem AtAll.append {m : Addr} {H : Hp} {v : V} {d : PyData} : ∀ {vs : List V} {ds : List PyData}, AtAll m H vs ds → At m H v d → AtAll m H (vs ++ [v]) (ds ++ [d])
  | _, _, .nil, h => .cons h .nil
  | _, _, .cons h q, e => .cons h (AtAll.append q e)
theorem AtAll.bools {m : Addr} {H : Hp} : ∀ (bs : List Bool), AtAll m H (bs.map V.bl) (bs.map PyData.bool)
  | [] => .nil
  | b :: r => .cons (.bl b) (AtAll.bools r)
theorem AtAll.mem {m : Addr} {H : Hp} {vs : List V} {ds : List PyData} {v : V} (h : AtAll m H vs ds) (hv : v ∈ vs) : ∃ d, d ∈ ds ∧ At m H v d := by
  obtain ⟨i, hi, e⟩ := List.getElem_of_mem hv
  obtain ⟨d, h1, h2⟩ := h.get (i := i) (v := v) (by rw [List.getElem?_eq_getElem hi, e])
  exact ⟨d, List.mem_of_getElem? h1, h2⟩
/-- what type(x) is called -/
def tyS : PyData → String
  | .none => "NoneType" | .bool _ => "bool" | .int _ => "int" | .str _ => "str" | .list _ => "list" | .tuple _ => "tuple" | .dict _ => "dict"
theorem At.ty {K : PySem.W.Frag} {m : Addr} {H : Hp} {v : V} {d : PyData} (h : At m H v d) : TyX K H v (.type (tyS d)) := by
  cases h with
  | non => exact .base .non
  | bl b => exact .base (.bl b)
  | int i => exact .base (.int i)
  | str x => exact .base (.str x)
  | lst n e q => exact .base (.lst e)
  | tup n e q => exact .base (.tup e)
/-- nested at most n deep -/
inductive Lev : Nat → PyData → Prop
  | non (n : Nat) : Lev n .none
  | bl (n : Nat) (b : Bool) : Lev n (.bool b)
  | int (n : Nat) (i : Int) : Lev n (.int i)
  | str (n : Nat) (x : Str) : Lev n (.str x)
  | lst {n : Nat} {ds : List PyData} : ds.length ≤ 1000000 → (∀ x, x ∈ ds → Lev n x) → Lev (n + 1) (.list ds)
  | tup {n : Nat} {ds : List PyData} : ds.length ≤ 1000000 → (∀ x, x ∈ ds → Lev n x) → Lev (n + 1) (.tuple ds)
theorem walk_zipT {K : PySem.W.Frag} {a b : Addr} {xs ys : List V} (hn : xs.length = ys.length) : Walk (RZ.ItzT K a b) xs.length (fun H => SqT K H a xs ∧ SqT K H b ys) (YPair (fun i => xs[i]?) (fun i => ys[i]?)) :=
  ⟨fun i H hi h => ⟨xs, ys, xs[i], ys[i]'(by omega), h.1, h.2, by simp [hi], by simp [show i < ys.length by omega]⟩, fun H h => ⟨xs, ys, h.1, h.2, .inl (Nat.le_refl _)⟩, fun i H v H' hi h y => by
    obtain ⟨T, x, y, e, f, g, q, r⟩ := y
    exact ⟨T, x, y, e, f, g, q xs h.1, r ys h.2⟩⟩
theorem walk_zipL {K : PySem.W.Frag} {a b : Addr} {xs ys : List V} (hn : xs.length = ys.length) : Walk (Itz K a b) xs.length (fun H => SqL K H a xs ∧ SqL K H b ys) (YPair (fun i => xs[i]?) (fun i => ys[i]?)) :=
  ⟨fun i H hi h => ⟨xs, ys, xs[i], ys[i]'(by omega), h.1, h.2, by simp [hi], by simp [show i < ys.length by omega]⟩, fun H h => ⟨xs, ys, h.1, h.2, .inl (Nat.le_refl _)⟩, fun i H v H' hi h y => by
    obtain ⟨T, x, y, e, f, g, q, r⟩ := y
    exact ⟨T, x, y, e, f, g, q xs h.1, r ys h.2⟩⟩
/-- what _law_same promises: two things that are the same data are told so -/
def spSame (n : Nat) : Sp := fun vs H Q _ => ∃ (m : Addr) (x y : V) (d : PyData) (o : HO), vs = [x, y] ∧ H m = some o ∧ At m H x d ∧ At m H y d ∧ Lev n d ∧ ∀ H', Same H H' → Q (.bl true) H'
theorem But.sqL {K : PySem.W.Frag} {p a : Addr} {H H' : Hp} {xs : List V} (b : But p H H') (n : a ≠ p) (h : SqL K H a xs) : SqL K H' a xs := by
  rcases h with h | h
  · rcases h with h | ⟨o, h⟩
    · exact .inl (.inl (b _ _ h n))
    · exact .inl (.inr ⟨o, b _ _ h n⟩)
  · exact .inr h
theorem But.sqT {K : PySem.W.Frag} {p a : Addr} {H H' : Hp} {xs : List V} (b : But p H H') (n : a ≠ p) (h : SqT K H a xs) : SqT K H' a xs := by
  rcases h with h | h
  · rcases h with h | ⟨o, h⟩
    · exact .inl (.inl (b _ _ h n))
    · exact .inl (.inr ⟨o, b _ _ h n⟩)
  · exact .inr h
def kitAnyB (a : String) : List String → Option Bool
  | [] => some false
  | c :: cs => match kitB a c with
    | some true => some true
    | some false => kitAnyB a cs
    | none => none
theorem kit_any {K : PySem.W.Frag} {a : String} : ∀ {cs : List String} {b : Bool}, kitAnyB a cs = some b → PySem.W.kitAny K (.type a) (cs.map Value.type) = some b
  | [], b, h => by
    cases h
    exact kitAny_nil
  | c :: cs, b, h => by
    unfold kitAnyB at h
    cases e : kitB a c with
    | none =>
      rw [e] at h
      cases h
    | some r =>
      rw [e] at h
      cases r with
      | true =>
        cases h
        exact kitAny_cons (kit_ty e) (fun z => by cases z) (fun _ => rfl)
      | false => exact kitAny_cons (kit_ty e) (fun _ => kit_any h) (fun z => by cases z)
theorem cls_all : ∀ (cs : List String), Paired ClsV (cs.map V.ty) (cs.map Value.type)
  | [] => .nil
  | c :: cs => .cons (.ty c) (cls_all cs)
theorem k_NoneType_list : kitB "NoneType" "list" = some false := by decide +kernel
theorem k_NoneType_tuple : kitB "NoneType" "tuple" = some false := by decide +kernel
theorem k_NoneType_int : kitB "NoneType" "int" = some false := by decide +kernel
theorem k_NoneType_bool : kitB "NoneType" "bool" = some false := by decide +kernel
theorem k_NoneType_str : kitB "NoneType" "str" = some false := by decide +kernel
theorem k_NoneType_lt : kitAnyB "NoneType" ["list", "tuple"] = some false := by decide +kernel
theorem k_NoneType_bilt : kitAnyB "NoneType" ["bool", "int", "list", "tuple"] = some false := by decide +kernel
theorem k_bool_list : kitB "bool" "list" = some false := by decide +kernel
theorem k_bool_tuple : kitB "bool" "tuple" = some false := by decide +kernel
theorem k_bool_int : kitB "bool" "int" = some true := by decide +kernel
theorem k_bool_bool : kitB "bool" "bool" = some true := by decide +kernel
theorem k_bool_str : kitB "bool" "str" = some false := by decide +kernel
theorem k_bool_lt : kitAnyB "bool" ["list", "tuple"] = some false := by decide +kernel
theorem k_bool_bilt : kitAnyB "bool" ["bool", "int", "list", "tuple"] = some true := by decide +kernel
theorem k_int_list : kitB "int" "list" = some false := by decide +kernel
theorem k_int_tuple : kitB "int" "tuple" = some false := by decide +kernel
theorem k_int_int : kitB "int" "int" = some true := by decide +kernel
theorem k_int_bool : kitB "int" "bool" = some false := by decide +kernel
theorem k_int_str : kitB "int" "str" = some false := by decide +kernel
theorem k_int_lt : kitAnyB "int" ["list", "tuple"] = some false := by decide +kernel
theorem k_int_bilt : kitAnyB "int" ["bool", "int", "list", "tuple"] = some true := by decide +kernel
theorem k_str_list : kitB "str" "list" = some false := by decide +kernel
theorem k_str_tuple : kitB "str" "tuple" = some false := by decide +kernel
theorem k_str_int : kitB "str" "int" = some false := by decide +kernel
theorem k_str_bool : kitB "str" "bool" = some false := by decide +kernel
theorem k_str_str : kitB "str" "str" = some true := by decide +kernel
theorem k_str_lt : kitAnyB "str" ["list", "tuple"] = some false := by decide +kernel
theorem k_str_bilt : kitAnyB "str" ["bool", "int", "list", "tuple"] = some false := by decide +kernel
theorem k_list_list : kitB "list" "list" = some true := by decide +kernel
theorem k_list_tuple : kitB "list" "tuple" = some false := by decide +kernel
theorem k_list_int : kitB "list" "int" = some false := by decide +kernel
theorem k_list_bool : kitB "list" "bool" = some false := by decide +kernel
theorem k_list_str : kitB "list" "str" = some false := by decide +kernel
theorem k_list_lt : kitAnyB "list" ["list", "tuple"] = some true := by decide +kernel
theorem k_list_bilt : kitAnyB "list" ["bool", "int", "list", "tuple"] = some true := by decide +kernel
theorem k_tuple_list : kitB "tuple" "list" = some false := by decide +kernel
theorem k_tuple_tuple : kitB "tuple" "tuple" = some true := by decide +kernel
theorem k_tuple_int : kitB "tuple" "int" = some false := by decide +kernel
theorem k_tuple_bool : kitB "tuple" "bool" = some false := by decide +kernel
theorem k_tuple_str : kitB "tuple" "str" = some false := by decide +kernel
theorem k_tuple_lt : kitAnyB "tuple" ["list", "tuple"] = some true := by decide +kernel
theorem k_tuple_bilt : kitAnyB "tuple" ["bool", "int", "list", "tuple"] = some true := by decide +kernel
/-- isinstance(x, C) of data, as the reading asks it -/
theorem isi_of {K : PySem.W.Frag} {m : Addr} {H : Hp} {v : V} {d : PyData} {c : String} {b : Bool} {Q : VK} (h : At m H v d) (k : kitB (tyS d) c = some b) (q : Q (.bl b) H) : rIsi K [v, .ty c] H Q :=
  ⟨_, _, _, _, b, rfl, .ty c, h.ty, kit_ty k, q⟩
theorem isiT_of {K : PySem.W.Frag} {m tp : Addr} {H : Hp} {v : V} {d : PyData} {cs : List String} {b : Bool} {Q : VK} (h : At m H v d) (ht : H tp = some (.tup (cs.map V.ty))) (k : kitAnyB (tyS d) cs = some b) (q : Q (.bl b) H) : rIsiT K [v, .ref tp] H Q :=
  ⟨_, _, _, _, _, b, rfl, ht, cls_all cs, h.ty, kit_any k, q⟩
theorem small6 {n : Nat} (h : n < 1000000) : n < sizeLine := Nat.lt_trans h (by decide)
/-- an if whose test leaves the heap as it is, both ways to be shown -/
theorem if_any {c : TT} {t u : TS} {D : Ends} {σ : L2.St} {H : Hp} (h : ∀ K' : Bool → Hp → Prop, K' true H → K' false H → c σ H K') (hT : t D σ H) (hF : u D σ H) : tIfS c t u D σ H := h _ (iteT hT) (iteF hF)
theorem seq_if_any {c : TT} {t u r : TS} {D : Ends} {σ : L2.St} {H : Hp} (h : ∀ K' : Bool → Hp → Prop, K' true H → K' false H → c σ H K') (hT : t { D with nx := r D } σ H) (hF : u { D with nx := r D } σ H) : tSeq (tIfS c t u) r D σ H := h _ (iteT hT) (iteF hF)
theorem by_bool {K' : Bool → Hp → Prop} {H : Hp} (a : K' true H) (b : K' false H) : ∀ c, K' c H
  | true => a
  | false => b
end My

set_option Elab.async false
set_option maxRecDepth 100000
set_option maxHeartbeats 4000000
set_option linter.all false
/-! Exceptions of own classes over Exception whose __init__ stores one field: made and held as a value, raised, asked. -/
namespace PySem
namespace MyX
open Builtin Builtin.ObjectAttr HandSPX
abbrev xTail : List Value := [.type "Exception", .type "BaseException", .type "object"]
/-- own classes, then Exception's mro -/
def refsX : List Value → Bool
  | .ref _ :: r => refsX r
  | l => l == xTail
theorem refsX_cases (l : List Value) (e : refsX l = true) : (∃ c r, l = .ref c :: r ∧ refsX r = true) ∨ l = xTail := by
  cases l with
  | nil => exact .inr (beq_iff_eq.mp e)
  | cons a r =>
    cases a with
    | ref c => exact .inl ⟨c, r, rfl, e⟩
    | _ => exact .inr (beq_iff_eq.mp e)
theorem refsX_pass (self : Value) : ∀ l : List Value, refsX l = true → refuseLoop self "__setattr__" l = pure () := by
  intro l
  induction l with
  | nil => exact fun e => absurd e (by decide)
  | cons a r ih =>
    intro e
    rcases refsX_cases _ e with ⟨c, r', q, h⟩ | q
    · injection q with q1 q2
      subst q1 q2
      rw [refuseLoop_ref]
      exact ih h
    · rw [q]
      exact F.store_Exception.passes self
theorem refsX_has (X : String) : ∀ l : List Value, refsX l = true → l.contains (.type X) = xTail.contains (.type X) := by
  intro l
  induction l with
  | nil => exact fun e => absurd e (by decide)
  | cons a r ih =>
    intro e
    rcases refsX_cases _ e with ⟨c, r', q, h⟩ | q
    · injection q with q1 q2
      subst q1 q2
      rw [List.contains_cons, ih h]
      rfl
    · rw [q]
theorem refsX_ne {l : List Value} (e : refsX l = true) : l.isEmpty = false := by
  cases l with
  | nil => exact absurd e (by decide)
  | cons _ _ => rfl
section
variable {prog : Program} {w : World} {A : Around} {E : Value → Shared → Prop} {R : Result → Shared → Prop} {hp : Heap} {g : Array GenState} {d : Drawn} {t : Nat} {os : OsState}
theorem x_osa {K : W.Frag} {name : Str} {tk : Tok} {v : Value} {x C : Addr} {fv : Array Value} {cd : ClassData}
    (X : K.In hp) (hx : hp.get? x = some { cls := .ref C, data := .fields fv }) (hcd : W.clsIn K C = some cd) (hm : refsX cd.mro = true) (hh : cd.hasDict = true) (ha : W.findIn K (.ref C) name = some none)
    (hq : ∀ h' tk' dx, (∀ b o, b ≠ x → hp.get? b = some o → h'.get? b = some o) → hp.objs.size ≤ dx → dx ≠ x → h'.get? x = some { cls := .ref C, dict := some dx, data := .fields fv } →
      h'.Ns1 dx (fun y => if y = name then some v else none) → R (.ok (.ret .none)) ⟨h', g, d, tk', os⟩) :
    codeAny (model prog w) A (.call (.builtin "object.__setattr__") ⟨[.ref x, .str name tk, v], []⟩) R ⟨hp, g, d, t, os⟩ := by
  have ia : W.InstAt hp x { cls := .ref C, data := .fields fv } C none := ⟨hx, rfl, rfl, trivial⟩
  have SF := F.store_object
  have n0 := refsX_ne hm
  have h0 : cd.mro.contains (.type "object") = true := (refsX_has "object" _ hm).trans (by decide +kernel)
  have nx : x ≠ hp.objs.size := Nat.ne_of_lt (Heap.lt_size hx)
  have sb : W.Looks (model prog w) hp (isInstance (.ref x) (.type "object")) true :=
    ia.type.andThen (W.looks_mroIn X (by unfold W.mroIn; rw [hcd, Option.bind_some, if_neg (by rw [n0]; decide), h0]))
  refine codeAny_call_builtin SF.slot.plain SF.entry (@W.check_slot (model prog w) _ _ ⟨hp, g, d, t, os⟩ "object.__setattr__" "object" "__setattr__" (.ref x) [.str name tk, v] [] _ SF.kind SF.split sb (SF.args (.ref x) (.str name tk) v) ?_)
  have lm : W.Looks (model prog w) hp (mroOf (.ref C)) cd.mro := (W.looks_clsIn X hcd).andThen .now
  have lt : W.Looks (model prog w) hp (storeTaker? none) none := .now
  have lc : W.Looks (model prog w) hp (classData C) cd := W.looks_clsIn X hcd
  rw [W.osa_eq, refuse_eq]
  refine wpAny_bind (wpAny_bind (ia.type.at (wpAny_bind (lm.at ?_))))
  rw [refsX_pass _ _ hm]
  refine wpAny_pure (wpAny_bind (ia.type.at (wpAny_bind ((W.looks_findIn X ha).at (wpAny_bind (lt.at ?_))))))
  show wpAny _ _ (storeInOwnDict (.ref x) (.ref C) (.str name tk) name v false) _ _ _
  obtain ⟨nm, bs, mro, ns, qn, hd, sn, sb', ab, col, del⟩ := cd
  dsimp only at hh
  subst hh
  unfold storeInOwnDict ownDictForStores
  repeat (first | with_reducible refine store_in_new ?_ ?_ | with_reducible refine wpAny_loadPart_at hx ?_ | with_reducible refine lc.at ?_ | wp_step)
  · exact ⟨_, #[], _, (Heap.get?_update_ne _ _ _ _ nx.symm).trans (Heap.get?_push_at rfl rfl), rfl, fun e he => absurd he (by simp), fun _ => rfl⟩
  · intro h' tk' hn' hs
    have hx1 : (hp.push { cls := .type "dict", data := .dict #[] }).get? x = some { cls := .ref C, data := .fields fv } := Heap.get?_push_of_some _ hx
    refine hq h' tk' hp.objs.size (fun b o hb ho => ?_) (Nat.le_refl _) nx.symm ?_ hn'
    · exact (hs.2 b (Nat.ne_of_lt (Heap.lt_size ho))).trans ((Heap.get?_update_ne _ _ _ _ hb).trans (Heap.get?_push_of_some _ ho))
    · exact (hs.2 x nx).trans (Heap.get?_update_self _ hx1 rfl)
end
end MyX
end PySem
namespace My
open PySem PySem.Spec PyProof.Rows L2
/-- what the written part says of such a class -/
structure OexE (K : PySem.W.Frag) (C : Addr) : Prop where
  cls : ∃ nm q N bs bm sn sub ab col dd k0 k1 k2 k3 k5, K.lookup C = some (excClassObj nm q C N bs bm true sn sub ab col dd k0 k1 k2 k3 k5 "Exception.__new__") ∧ PySem.MyX.refsX bm = true
  sa : PySem.W.findIn K (.ref C) "__setattr__" = some (some (.builtin "object.__setattr__"))
  exC : PySem.W.subIn K (.ref C) (.type "BaseException") = some true
  tyC : PySem.W.typeIn K (.ref C) = some (.type "type")
  kC : PySem.W.keepIn K (.ref C) = true
section
variable {X : Cx} {pins : List (Addr × Obj)} {σ : L2.St} {H : Hp} {s : Shared} {a C dx : Addr} {f : Str} {y : V} {u : Value} {Q : Unit → Shared → Prop} {E : Value → Shared → Prop} {A : Around}
theorem ostE_new (T : OexE X.K C) (I : Inv X pins σ H s) (e : H a = some (exo a C none)) (hno : PySem.W.findIn X.K (.ref C) f = some none) (ry : RelV y u)
    (h : ∀ dx s', H dx = none → dx ≠ a → Inv X pins σ (upd (upd H dx (exd dx [(f, y)])) a (exo a C (some dx))) s' → Q () s') : wpAny (model X.prog X.w) A (setAttr (.ref a) f u) Q E s := by
  obtain ⟨nm, q, N, bs, bm, sn, sub, ab, col, dd, k0, k1, k2, k3, k5, hC, hbm⟩ := T.cls
  have hcl : PySem.W.clsIn X.K C = some { name := nm, bases := bs, mro := .ref C :: bm, ns := N, qualname := q, hasDict := true, slotNames := sn, subclasses := sub, abstract := ab, collection := col, hasDel := false } := by
    unfold PySem.W.clsIn
    rw [hC] <;> rfl
  obtain ⟨t1, ho⟩ := exo_at I.hok e
  obtain ⟨hp, g, d, t, os⟩ := s
  refine PySem.W.set_plain I.kIn (ox := { cls := .ref C, dict := none, data := .fields #[.ref t1, .none, .none, .none, .bool false, .none] }) (od := none) ⟨ho, rfl, rfl, trivial⟩ T.sa ?_
  refine PySem.MyX.x_osa I.kIn ho hcl (show PySem.MyX.refsX (.ref C :: bm) = true from hbm) rfl hno (fun h' tk' dx k dn dne hx hn => ?_)
  have fd : H dx = none := I.hok.fresh dn
  have nd : ∀ {b : Addr} {o : Obj}, hp.get? b = some o → b ≠ dx := fun {b o} q => Nat.ne_of_lt (Nat.lt_of_lt_of_le (Heap.lt_size q) dn)
  have na : ∀ {b : Addr}, H b = none → b ≠ a := fun {b} n z => by
    rw [z, e] at n
    cases n
  have un : Un X.fs [] H (upd (upd H dx (exd dx [(f, y)])) a (exo a C (some dx))) hp h' := {
    keep := fun b o q n _ _ => k b o (na n) q
    slot := fun b o q n _ _ => ⟨o.slots, k b o (na n) q⟩
    free := fun b o q n _ => by
      rw [upd_ne (na n), upd_ne (nd q)]
      exact n
    there := fun b o q _ => by
      by_cases hb : b = a
      · exact ⟨_, by rw [hb]; exact hx⟩
      · exact ⟨o, k b o hb q⟩
    tups := fun b xs q => by
      rw [upd_ne (at_ne e q exo_tup), upd_ne (ne_of_none q fd)]
      exact q
    frzs := fun b o v q => by
      rw [upd_ne (at_ne e q exo_frz), upd_ne (ne_of_none q fd)]
      exact q
    tbls := fun b ps q => ⟨#[], by
      rw [upd_ne (at_ne e q exo_tbl), upd_ne (ne_of_none q fd), q]
      simp⟩ }
  refine h dx _ fd dne (I.un (t' := tk') un fun b o q => ?_)
  by_cases hb : b = a
  · subst hb
    rw [upd_same] at q
    cases q
    exact exo_ok hx
  · rw [upd_ne hb] at q
    by_cases hd : b = dx
    · subst hd
      rw [upd_same] at q
      cases q
      exact exd_ok hn (relO_put (fs := []) ry fun g => True.intro)
    · rw [upd_ne hd] at q
      refine (I.hok b o q).stay (fun c v hc z => k c v ?_ z) (fun c hc => ?_) (fun c xs hc => ?_)
      · rcases hc with hc | hc
        · rw [hc]
          exact hb
        · exact at_ne e hc exo_own
      · rw [upd_ne (at_ne e hc exo_own), upd_ne (ne_of_none hc fd)]
        exact hc
      · rw [upd_ne (at_ne e hc exo_tup), upd_ne (ne_of_none hc fd)]
        exact hc
end
/-- self.f = e, the first field of an exception that is being made -/
def tOstE (K : PySem.W.Frag) (f : Str) (to te : TE) : TS := fun D σ H => te σ H fun y H1 => to σ H1 fun x H2 => ∃ a C : Addr, x = .ref a ∧ OexE K C ∧ PySem.W.findIn K (.ref C) f = some none ∧
  H2 a = some (exo a C none) ∧ ∀ dx, H2 dx = none → dx ≠ a → D.nx σ (upd (upd H2 dx (exd dx [(f, y)])) a (exo a C (some dx)))
theorem ps_ostE {X : Cx} {o e : Expr} {to te : TE} {f : Str} {p' pos : Pos} (ho : PE X o to) (he : PE X e te) (hs : swapsWith e (some (.Attribute o f p')) pos.line X.env = pure false := by rfl) : PS X (.Assign [.Attribute o f p'] e pos) (tOstE X.K f to te) := by
  refine ⟨fun pins s σ H D I h => ?_⟩
  refine plainObj_wpAny_Assign_Attribute (thn (he.run pins s σ H _ I h) fun v s1 ⟨y, H1, I1, r1, q1⟩ => thn (ho.run pins s1 σ H1 _ I1 q1) fun u s2 ⟨x, H2, I2, r2, a, C, ex, T, hno, ea, q⟩ => ?_) hs
  subst ex
  obtain rfl : u = Value.ref a := r2
  exact ostE_new T I2 ea hno r1 fun dx s' n ne J => ⟨σ, _, J, q dx n ne⟩
end My

set_option Elab.async false
set_option maxRecDepth 100000
set_option maxHeartbeats 4000000
set_option linter.all false
namespace My
open PySem PySem.Spec PyProof.Rows L2
/-- C(e, ..) as a value, C's __init__ keeping sp -/
def tMkE (C : Addr) (sp : Sp) (dvs : List V) (ta : TA) : TE := fun σ H Q => ta σ H fun vs H1 => vs.length ≤ 1000 ∧ ∀ a, H1 a = none → sp (.ref a :: (vs ++ dvs)) (upd H1 a (exo a C none)) (fun v H2 => v = .non ∧ Q (.ref a) H2) (fun _ _ _ => False)
section
variable {X : Cx} {pins : List (Addr × Obj)} {σ : L2.St} {H1 : Hp} {CX : CXT} {x : Str} {C fI : Addr} {k : Nat} {fd : FuncData} {ps : List Str} {sp : Sp} {ds us : List Value} {dvs vs : List V} {s1 : Shared}
/-- the class's __init__ stands and keeps its promise -/
structure IniE (X : Cx) (CX : CXT) (C fI : Addr) (k : Nat) (fd : FuncData) (ps : List Str) (sp : Sp) (ds : List Value) (dvs : List V) : Prop where
  T : OexE X.K C
  iC : PySem.W.findIn X.K (.ref C) "__init__" = some (some (.ref fI))
  tI : PySem.W.typeIn X.K (.ref fI) = some (.type "function")
  F1 : FnOk X.prog X.w X.K X.mg X.base CX k fI fd ps sp
  hb : Binds X.K fd ps ds
  hd : Vals dvs ds
theorem run_own {R : Result → Shared → Prop} (J : IniE X CX C fI k fd ps sp ds dvs) (hr : Room (k + 1) X.A) (I1 : Inv X pins σ H1 s1) (r1 : Vals vs us) (hz : vs.length ≤ 1000) {Q1 : VK} {E1 : XK}
    (hq : sp (.ref (s1.heap.objs.size + 1) :: (vs ++ dvs)) (upd H1 (s1.heap.objs.size + 1) (exo (s1.heap.objs.size + 1) C none)) Q1 E1)
    (fin : ∀ (hp2 : Heap) (r : Result) (s' : Shared), (∀ b o, s1.heap.get? b = some o → hp2.get? b = some o) →
      Inv X pins σ (upd H1 (s1.heap.objs.size + 1) (exo (s1.heap.objs.size + 1) C none)) { s1 with heap := hp2 } →
      CR CX X.stack X.prog X.w (upd H1 (s1.heap.objs.size + 1) (exo (s1.heap.objs.size + 1) C none)) { s1 with heap := hp2 } Q1 E1 r s' → PySem.W.InitBack (s1.heap.objs.size + 1) R r s') :
    codeAny (model X.prog X.w) X.A (.call (.ref C) ⟨us, []⟩) R s1 := by
  obtain ⟨nm, q, N, bs, bm, sn, sub, ab, col, dd, k0, k1, k2, k3, k5, hC, hbm⟩ := J.T.cls
  obtain ⟨hp, g, dr, tk, os⟩ := s1
  have hs : hp.objs.size ≤ hp.objs.size + 1 := Nat.le_succ _
  have kk : ∀ b o, hp.get? b = some o → ((hp.push (PySem.W.kdv_tup us)).push (PySem.HandSPX.excO C hp.objs.size)).get? b = some o := fun b o e => Heap.get?_push_of_some _ (Heap.get?_push_of_some _ e)
  have hg : ((hp.push (PySem.W.kdv_tup us)).push (PySem.HandSPX.excO C hp.objs.size)).get? (hp.objs.size + 1) = some (PySem.HandSPX.excO C hp.objs.size) := by heap_get
  have I2 : Inv X pins σ (upd H1 (hp.objs.size + 1) (exo (hp.objs.size + 1) C none)) ⟨(hp.push (PySem.W.kdv_tup us)).push (PySem.HandSPX.excO C hp.objs.size), g, dr, tk, os⟩ :=
    I1.laid (t' := tk) (a := hp.objs.size + 1) (o := exo (hp.objs.size + 1) C none) (h' := (hp.push (PySem.W.kdv_tup us)).push (PySem.HandSPX.excO C hp.objs.size)) kk hs (exo_ok hg)
  have r2 : Vals (V.ref (hp.objs.size + 1) :: (vs ++ dvs)) (Value.ref (hp.objs.size + 1) :: (us ++ ds)) := .cons rfl (r1.append J.hd)
  have hl : (Value.ref (hp.objs.size + 1) :: us ++ ds).length = ps.length := by
    have e := r2.length
    rw [J.F1.len _ _ _ _ hq] at e
    exact e.symm
  have hus : us.length ≤ sizeLine := by
    rw [← Paired.length r1, sizeLine_eq]
    omega
  refine PySem.HandSPX.call_own F.excBase_Exception (fun Y => PySem.MyX.refsX_has Y bm hbm) (I1.kIn _ _ hC) (PySem.W.looks_findIn I1.kIn J.iC) (fun self => PySem.W.bind_fn I1.kIn self J.tI) hus
    (codeAny_mono (J.F1.run _ X.stack _ _ ⟨Value.ref (hp.objs.size + 1) :: us, []⟩ (Value.ref (hp.objs.size + 1) :: (us ++ ds)) _ Q1 E1 (hr.make C us []) (I2.env0.make C us []) (J.hb _ (Value.ref (hp.objs.size + 1) :: us) I2.kIn hl) r2 hq) fun r s' hq' => ?_)
  exact fin _ r s' kk I2 hq'
theorem run_mkE (J : IniE X CX C fI k fd ps sp ds dvs) (hr : Room (k + 1) X.A) (hx : Passes CX X (fun _ _ _ => False)) (I1 : Inv X pins σ H1 s1) (r1 : Vals vs us) {Q : VK} (hz : vs.length ≤ 1000)
    (q1 : ∀ a, H1 a = none → sp (.ref a :: (vs ++ dvs)) (upd H1 a (exo a C none)) (fun v H2 => v = .non ∧ Q (.ref a) H2) (fun _ _ _ => False)) : wpAny (model X.prog X.w) X.A (call (.ref C) us) (EP X pins σ Q) X.xe s1 := by
  refine wpAny_call (run_own J hr I1 r1 hz (q1 _ (I1.hok.fresh (Nat.le_succ _))) fun hp2 r s' kk I2 hq' => ?_)
  cases r with
  | error er => exact hx pins σ _ _ er s' I2 hq'
  | ok fl =>
    cases fl with
    | ret u =>
      obtain ⟨v, H', I3, rv, ev, q3⟩ := I2.after hq'
      subst ev
      exact ⟨rv, ⟨V.ref (s1.heap.objs.size + 1), H', I3, rfl, q3⟩⟩
    | next => exact False.elim hq'
    | brk => exact False.elim hq'
    | cont => exact False.elim hq'
theorem run_mkR (J : IniE X CX C fI k fd ps sp ds dvs) (hr : Room (k + 1) X.A) (hx : Passes CX X (fun _ _ _ => False)) (I1 : Inv X pins σ H1 s1) (r1 : Vals vs us) {Q : XK} (hz : vs.length ≤ 1000)
    (q1 : ∀ a, H1 a = none → sp (.ref a :: (vs ++ dvs)) (upd H1 a (exo a C none)) (fun v H2 => v = .non ∧ ∃ (d : Addr) (fs : List (Str × V)), H2 a = some (exo a C (some d)) ∧ H2 d = some (exd d fs) ∧ H1 d = none ∧ Q (.ref C) (some d) (upd (del H2 a) d (.xd fs))) (fun _ _ _ => False)) :
    wpAny (model X.prog X.w) X.A (call (.ref C) us) (MkP X pins σ Q) X.xe s1 := by
  refine wpAny_call (run_own J hr I1 r1 hz (q1 _ (I1.hok.fresh (Nat.le_succ _))) fun hp2 r s' kk I2 hq' => ?_)
  cases r with
  | error er => exact hx pins σ _ _ er s' I2 hq'
  | ok fl =>
    cases fl with
    | ret u =>
      obtain ⟨v, H2, os2, bare2, un2, hok2, rv, ev, d, fs, ea, ed, hd1, q2⟩ := hq'
      subst ev
      obtain ⟨hp, g, dr, tk, os⟩ := s1
      obtain ⟨h2, g2, d2, t2, os'⟩ := s'
      exact ⟨rv, mk_end (raises_own J.T.exC J.T.tyC) I1 (Nat.le_succ _) kk un2 hok2 os2 bare2 ea ed hd1 q2⟩
    | next => exact False.elim hq'
    | brk => exact False.elim hq'
    | cont => exact False.elim hq'
end
section
variable {X : Cx} {CX : CXT} {x : Str} {C fI : Addr} {k : Nat} {fd : FuncData} {ps : List Str} {sp : Sp} {ds : List Value} {dvs : List V} {e : Expr} {es : List Expr} {ta : TA} {p pos : Pos}
theorem pe_mkE (J : IniE X CX C fI k fd ps sp ds dvs) (hr : Room (k + 1) X.A) (hx : Passes CX X (fun _ _ _ => False)) (hg : Gl X x) (hm : X.mg x = some (.ref C)) (ha : PA X (e :: es) ta)
    (hdb : (x == ("__debug__" : Str)) = false := by decide) (he : starEach (e :: es) X.env = (false, eval e X.env) :: starEach es X.env := by rfl) (hpl : (backTo pos (starEach es X.env)).any (·.1) = false := by rfl) :
    PE X (.Call (.Name x p) (e :: es) [] pos) (tMkE C sp dvs ta) := by
  refine ⟨fun pins s σ H Q I h => ?_⟩
  refine wpAny_Call_Name_kw (ld_glob I hg hm ?_ hdb)
  refine PySem.W.callWith_K (h₀ := X.base) I.ok.mod.kin J.T.kC (thn (ha.run pos pins s σ H _ I h) fun us s1 ⟨vs, H1, I1, r1, hz, q1⟩ => ⟨I1.kIn, ?_⟩) he hpl
  exact run_mkE J hr hx I1 r1 hz q1
theorem pe_mkE0 (J : IniE X CX C fI k fd ps sp ds dvs) (hr : Room (k + 1) X.A) (hx : Passes CX X (fun _ _ _ => False)) (hg : Gl X x) (hm : X.mg x = some (.ref C)) (hdb : (x == ("__debug__" : Str)) = false := by decide) :
    PE X (.Call (.Name x p) [] [] pos) (tMkE C sp dvs tNil) := by
  refine ⟨fun pins s σ H Q I h => ?_⟩
  refine wpAny_Call_Name_kw (ld_glob I hg hm ?_ hdb)
  exact PySem.W.callWith_K0 I.kIn J.T.kC (run_mkE (us := []) (vs := []) J hr hx I .nil h.1 h.2)
theorem pmk_E (J : IniE X CX C fI k fd ps sp ds dvs) (hr : Room (k + 1) X.A) (hx : Passes CX X (fun _ _ _ => False)) (hg : Gl X x) (hm : X.mg x = some (.ref C)) (ha : PA X (e :: es) ta)
    (hdb : (x == ("__debug__" : Str)) = false := by decide) (he : starEach (e :: es) X.env = (false, eval e X.env) :: starEach es X.env := by rfl) (hpl : (backTo pos (starEach es X.env)).any (·.1) = false := by rfl) :
    PMk X (.Call (.Name x p) (e :: es) [] pos) (tMkO C sp dvs ta) := by
  intro pins s σ H Q I h
  refine wpAny_Call_Name_kw (ld_glob I hg hm ?_ hdb)
  refine PySem.W.callWith_K (h₀ := X.base) I.ok.mod.kin J.T.kC (thn (ha.run pos pins s σ H _ I h) fun us s1 ⟨vs, H1, I1, r1, hz, q1⟩ => ⟨I1.kIn, ?_⟩) he hpl
  exact run_mkR J hr hx I1 r1 hz q1
theorem pmk_E0 (J : IniE X CX C fI k fd ps sp ds dvs) (hr : Room (k + 1) X.A) (hx : Passes CX X (fun _ _ _ => False)) (hg : Gl X x) (hm : X.mg x = some (.ref C)) (hdb : (x == ("__debug__" : Str)) = false := by decide) :
    PMk X (.Call (.Name x p) [] [] pos) (tMkO C sp dvs tNil) := by
  intro pins s σ H Q I h
  refine wpAny_Call_Name_kw (ld_glob I hg hm ?_ hdb)
  exact PySem.W.callWith_K0 I.kIn J.T.kC (run_mkR (us := []) (vs := []) J hr hx I .nil h.1 h.2)
end
end My

set_option Elab.async false
set_option maxRecDepth 100000
set_option maxHeartbeats 4000000
set_option linter.all false
namespace My
open PySem PySem.Spec PyProof.Rows L2
/-- at a an exception of the class at C stands as a value, its fields fs -/
def Exv (H : Hp) (a C : Addr) (fs : List (Str × V)) : Prop := ∃ dx, H a = some (exo a C (some dx)) ∧ H dx = some (exd dx fs)
theorem Exv.same {H H' : Hp} {a C : Addr} {fs : List (Str × V)} (h : Exv H a C fs) (s : Same H H') : Exv H' a C fs := by
  obtain ⟨dx, h1, h2⟩ := h
  exact ⟨dx, s _ _ h1, s _ _ h2⟩
section
variable {X : Cx} {pins : List (Addr × Obj)} {σ : L2.St} {H : Hp} {s : Shared} {a C : Addr} {fs : List (Str × V)}
theorem Exv.at (h : Exv H a C fs) (I : Inv X pins σ H s) : ∃ (oe od : Obj) (mA : Str → Option Value), PySem.W.InstAt s.heap a oe C (some od) ∧ (∀ f, RelO (fs.lookup f) (mA f)) ∧ ∀ n, PySem.W.lookIn n od = some (mA n) := by
  obtain ⟨dx, h1, h2⟩ := h
  obtain ⟨t1, ho⟩ := exo_at I.hok h1
  obtain ⟨mA, hns, rel⟩ := exd_at I.hok h2
  obtain ⟨od, hod, hl⟩ := lookIn_ns hns
  exact ⟨_, od, mA, ⟨ho, rfl, rfl, hod⟩, rel, hl⟩
end
/-- isinstance(e, c) of an exception that is held as a value -/
def rIsV (K : PySem.W.Frag) : List V → Hp → VK → Prop := fun xs H Q => ∃ (a D : Addr) (fs : List (Str × V)) (c : V) (cv : Value) (b : Bool), xs = [.ref a, c] ∧ ExcC K D ∧ Exv H a D fs ∧ ClsV c cv ∧ PySem.W.kitOne K (.ref D) cv = some b ∧ Q (.bl b) H
def rIsVT (K : PySem.W.Frag) : List V → Hp → VK → Prop := fun xs H Q => ∃ (a D tp : Addr) (fs : List (Str × V)) (cs : List V) (us : List Value) (b : Bool), xs = [.ref a, .ref tp] ∧ ExcC K D ∧ Exv H a D fs ∧ H tp = some (.tup cs) ∧ Paired ClsV cs us ∧ PySem.W.kitAny K (.ref D) us = some b ∧ Q (.bl b) H
section
variable {X : Cx}
theorem kit_exv {pins : List (Addr × Obj)} {σ : L2.St} {H : Hp} {s : Shared} {a D : Addr} {fs : List (Str × V)} (T : ExcC X.K D) (h : Exv H a D fs) (I : Inv X pins σ H s) : ∃ P : Heap → Prop, PySem.W.KitX X.K (.ref a) (.ref D) P ∧ P s.heap := by
  obtain ⟨oe, od, mA, J, _⟩ := h.at I
  obtain ⟨cd, hc, _⟩ := PySem.W.any_some T.hd
  exact ⟨_, PySem.W.kitx_exc (by rw [hc]; rfl) T.hg T.hk T.hs T.ha T.hn T.ht T.hm, J⟩
theorem call_isV : CallR X (.builtin "isinstance") (rIsV X.K) := by
  intro pins s σ H xs us Q I r h
  obtain ⟨a, D, fs, c, cv, b, rfl, T, ex, k, e, q⟩ := h
  obtain ⟨u1, u2, rfl, r1, r2⟩ := vals2 r
  have e2 := k.eq r2
  subst e2
  cases (show u1 = Value.ref a from r1)
  obtain ⟨P, Z, p⟩ := kit_exv T ex I
  exact PySem.W.kia_one Z I.kIn p e (fun z => nomatch z) fun tk => ⟨.bl b, H, I.tok tk, rfl, q⟩
theorem call_isVT : CallR X (.builtin "isinstance") (rIsVT X.K) := by
  intro pins s σ H xs us Q I r h
  obtain ⟨a, D, tp, fs, cs, ws, b, rfl, T, ex, hT, k, e, q⟩ := h
  obtain ⟨u1, u2, rfl, r1, r2⟩ := vals2 r
  cases (show u1 = Value.ref a from r1)
  cases (show u2 = Value.ref tp from r2)
  obtain ⟨P, Z, p⟩ := kit_exv T ex I
  obtain ⟨_, its, rv, o, h1, h2, n, h3⟩ := (show ObjOk X.prog X.w H s.heap tp (.tup cs) from I.hok tp _ hT)
  have e3 := ClsV.all k rv
  subst e3
  obtain ⟨oc, od, dt, sl⟩ := o
  simp only at h2 h3
  subst h2 h3
  exact PySem.W.kia_tup Z I.kIn p h1 e (fun z => nomatch z) fun tk => ⟨.bl b, H, I.tok tk, rfl, q⟩
/-- e.n of an exception that is held as a value -/
def tXv (K : PySem.W.Frag) (n : Str) (te : TE) : TE := fun σ H Q => te σ H fun x H1 => ∃ (a C : Addr) (fs : List (Str × V)) (v : V), x = .ref a ∧ XfC K C ∧ PySem.W.findIn K (.ref C) n = some none ∧ Exv H1 a C fs ∧ fs.lookup n = some v ∧ Q v H1
theorem pe_xv {e : Expr} {te : TE} {pos : Pos} {n : Str} (he : PE X e te) (hb : attributeBase e n X.env (eval e X.env) = eval e X.env := by rfl) : PE X (.Attribute e n pos) (tXv X.K n te) := by
  refine ⟨fun pins s σ H Q I h => ?_⟩
  refine attr_of hb (thn (he.run pins s σ H _ I h) fun u s1 hh => ?_)
  obtain ⟨x, H1, I1, rx, a, C, fs, v, ex, T, hno, ev, l, q⟩ := hh
  subst ex
  obtain rfl : u = Value.ref a := rx
  obtain ⟨oe, od, mA, J, rel, hl⟩ := ev.at I1
  obtain ⟨u, hu, ru⟩ := RelO.some_of (v := v) (o := mA n) (by rw [← l]; exact rel n)
  exact HandSPX.exc_get I1.kIn J T.ga T.gg T.exC (PySem.W.findObj_own T.hdC hno rfl (by rw [hl, hu])) (handed_of ru) ⟨v, H1, I1.tok _, ru, q⟩
end
end My

set_option Elab.async false
set_option maxRecDepth 100000
set_option maxHeartbeats 4000000
set_option linter.all false
/-! try with several clauses «except X as n» -/
namespace My
open PySem PySem.Spec PyProof.Rows L2
/-- what stands behind a suite: its name is gone -/
def endA (D : Ends) (i : Nat) : Ends := { nx := fun σ' H' => D.nx (σ'.set i none) H', rt := D.rt, bk := fun σ' H' => D.bk (σ'.set i none) H', ct := fun σ' H' => D.ct (σ'.set i none) H' }
def wManyA (K : PySem.W.Frag) (Wout : WX) (D : Ends) : List (Value × Nat × (Addr → Value → Option Addr → TS)) → WX
  | [] => Wout
  | (c, i, ts) :: r => fun cls d σ H => ∃ b, PySem.W.exmOne K cls c = some b ∧ (b = true → ∀ a, H a = none → ts a cls d (endA D i) (σ.set i (some (.ref a))) H) ∧ (b = false → wManyA K Wout D r cls d σ H)
inductive HdsA (X : Cx) : List ExceptHandler → List (Value × Nat × (Addr → Value → Option Addr → TS)) → Prop
  | nil : HdsA X [] []
  | cons {x n : Str} {c : Value} {i : Nat} {ts : Addr → Value → Option Addr → TS} {b₀ : Stmt} {suite : List Stmt} {np pos' : Pos} {hds : List ExceptHandler} {l : List (Value × Nat × (Addr → Value → Option Addr → TS))} (hc : Names X x c)
      (hi : X.N[i]? = some n) (hln : X.env.kindOf n = some .local)
      (hsu : ∀ (a : Addr) (oe : Obj) (cls : Value) (d : Option Addr) (pn : List (Addr × Obj)), Zc cls d oe → (∃ vs, oe.data = .fields vs) → PSs (X.suite a ((a, oe) :: pn)) (b₀ :: suite) (ts a cls d)) (r : HdsA X hds l) :
      HdsA X (.ExceptHandler (some (.Name x np)) (some n) (b₀ :: suite) pos' :: hds) ((c, i, ts) :: l)
section
variable {X : Cx} {body : List Stmt} {h₀ : ExceptHandler} {hds : List ExceptHandler} {l : List (Value × Nat × (Addr → Value → Option Addr → TS))} {pos : Pos} {tb : WX → TS} {Wout : WX}
theorem ps_try_manyA (hs : X.stack = X.env :: X.outer) (hf : X.env.frame = some X.env.locals) (hN : X.N.Nodup) (tk : Takes X Wout)
    (hb : ∀ (W : WX) (pn : List (Addr × Obj)) (xe : Value → Shared → Prop), Takes (X.tr pn xe) W → PassesOwn (model X.prog X.w) X.A X.env xe → PSs (X.tr pn xe) body (tb W))
    (hh : HdsA X (h₀ :: hds) l) : PS X (.Try body (h₀ :: hds) [] [] pos) (fun D σ H => tb (wManyA X.K Wout D l) D σ H) := by
  refine ⟨fun pins s σ H D I h => ?_⟩
  have ok := I.ok
  have fr : X.A.frames = some (X.env :: X.outer) := by rw [ok.frames, hs]
  refine wpAny_Try_except ?_
  refine wpAny_mono ((hb (wManyA X.K Wout D l) (X.pn ++ pins) (fun e s₁ => wpAny (model X.prog X.w) X.A (noteFrame e X.env) (fun _ s₂ => wpAny (model X.prog X.w) X.A (setFlight e none) (fun _ s₃ =>
    wpAny (model X.prog X.w) X.A (handleBy e X.env (h₀ :: hds)) (SP X pins D) X.xe s₃) X.xe s₂) X.xe s₁) (fun u s' xx => ?_) PassesOwn.looking).run [] s σ H D (I.toTry _) h) (fun f s1 hsp => ?_) (fun e s1 he => he)
  · obtain ⟨a, B, sI, pins', σ', H', cls, d, rfl, J', nb, up, sky, na, os, ag, w⟩ := xx
    have J : Inv X pins σ' H' sI := J'.ofTry ok
    have sk : Sky B (X.env :: X.outer) a (Zc cls d) X.env.locals s'.heap := by
      rw [← hs]
      exact sky
    show wpAny (model X.prog X.w) X.A (noteFrame (.ref a) X.env) _ _ _
    refine Sky.land Zc.steady fr hf sk fun h3 fl3 up3 => ?_
    have J3 : Inv X pins σ' H' { s' with heap := h3 } := J.landed nb fl3.1 (up.trans up3) os ag
    obtain ⟨oe3, vs3, he3, hz3, hd3⟩ := fl3.there
    have nfr : a ∉ frs (X.env :: X.outer) := fun hm => by
      obtain ⟨_, o', e', hnf⟩ := fl3.2.2.1.mem hm
      rw [he3] at e'
      cases e'
      exact hnf _ hd3
    have nL : a ≠ X.env.locals := fun z => nfr (List.mem_filterMap.mpr ⟨X.env, List.mem_cons_self, by rw [hf, z]⟩)
    have nF : a ∉ X.fs := fun hm => by
      obtain ⟨e, he, q⟩ := List.mem_filterMap.mp hm
      exact nfr (List.mem_filterMap.mpr ⟨e, List.mem_cons_of_mem _ he, q⟩)
    have S3 := J3.suite he3 hd3 na nL nF
    have go : ∀ {hds' : List ExceptHandler} {l' : List (Value × Nat × (Addr → Value → Option Addr → TS))}, HdsA X hds' l' → wManyA X.K Wout D l' cls d σ' H' →
        wpAny (model X.prog X.w) X.A (handleBy (.ref a) X.env hds') (SP X pins D) X.xe { s' with heap := h3 } := by
      intro hds' l' hk
      induction hk with
      | nil =>
        intro w
        refine wpAny_handleBy_nil ?_
        obtain ⟨k1, k2, k3, oe, vs, T, oT, ts', he, hz, hd, h1, hr⟩ := id fl3
        unfold PySem.passOn
        refine wpAny_bind (wpAny_field he hd h1 ?_)
        rw [if_neg (show ¬ ((Value.ref T == Value.none) = true) from by simp)]
        have fin : wpAny (model X.prog X.w) X.A (setFlight (.ref a) X.env.frame) (fun _ s4 => wpAny (model X.prog X.w) X.A (throw (.ref a) : Sem Flow) (SP X pins D) X.xe s4) X.xe { s' with heap := h3 } := by
          rw [hf]
          refine HandSPX.setFlight_upZ fl3 fun h4 hh4 up4 => wpAny_throw (tk _ _ ?_)
          exact ⟨a, B, sI, pins, σ', H', cls, d, rfl, J, nb, (up.trans up3).trans up4, .inr (.inr (by rw [hs]; exact hh4)), na, os, ag, w⟩
        first
          | exact wpAny_bind (wpAny_pure (wpAny_bind fin))
          | exact wpAny_bind fin
      | @cons x n c i ts b₀ suite np pos' hds2 l2 hc hi hln hsu r ih =>
        intro w
        obtain ⟨b, hb1, hyes, hno⟩ := w
        refine wpAny_handleBy_cons (codeAny_handlers_test ?_) (by intro q; cases q)
        have LT : PySem.W.Looks (model X.prog X.w) h3 (typeOf (.ref a)) cls := fun A Q E s k q => wpAny_typeOf_ref (k _ _ he3) (by rw [hz3.1]; exact q)
        have LM := PySem.W.exm_one (M := model X.prog X.w) (J3.kIn) LT hb1
        have test : ∀ {Q : Value → Shared → Prop} {E : Value → Shared → Prop}, Q c { s' with heap := h3 } → wpAny (model X.prog X.w) (X.A.mark (some (.ref a))) (eval (.Name x np) X.env) Q E { s' with heap := h3 } := fun {Q E} q => by
          obtain ⟨hg, hdbg, hm | ⟨hm, hv, hnn⟩⟩ := hc
          · exact ld_glob (X := X.suite a ((a, oe3) :: (X.pn ++ pins))) S3 hg hm q hdbg
          · exact ld_blt (X := X.suite a ((a, oe3) :: (X.pn ++ pins))) S3 hg hm hv q hnn hdbg
        refine test (LM.here ?_)
        cases b with
        | true =>
          refine codeAny_handlers_suite_as ?_
          refine HandSPX.lands_againZ fl3 fun h4 fl4 up4 => ?_
          have J4 : Inv X pins σ' H' { s' with heap := h4 } := J.landed nb fl4.1 ((up.trans up3).trans up4) os ag
          obtain ⟨oe4, vs4, he4, hz4, hd4⟩ := fl4.there
          have S4 := J4.suite he4 hd4 na nL nF
          refine store_ok (X := X.suite a ((a, oe4) :: (X.pn ++ pins))) (v := .ref a) S4 hN hi (.inl hln) rfl (fun s5 S5 => ?_) (.inr hln)
          refine wpAny_mono ((hsu a oe4 cls d (X.pn ++ pins) hz4 ⟨_, hd4⟩).run [] s5 _ H' _ S5 (hyes rfl a na)) (fun f s6 hsp => ?_) (fun _ _ z => False.elim z)
          have ends : ∀ {σ6 : L2.St} {H6 : Hp} {Q : Shared → Prop}, Inv (X.suite a ((a, oe4) :: (X.pn ++ pins))) [] σ6 H6 s6 → (∀ s7, Inv X pins (σ6.set i none) H6 s7 → Q s7) →
              wpAny (model X.prog X.w) X.A (do bindName X.env n .none; unbindBehindTheSuite X.env n pos') (fun _ s7 => Q s7) X.xe s6 := fun {σ6 H6 Q} S6 hq => gone_ok (S6.unsuite ok) hN hi hln hq
          cases f with
          | next =>
            obtain ⟨σ6, H6, S6, q6⟩ := hsp
            exact ends S6 fun s7 J7 => ⟨_, _, J7, q6⟩
          | brk =>
            obtain ⟨σ6, H6, S6, q6⟩ := hsp
            exact ends S6 fun s7 J7 => ⟨_, _, J7, q6⟩
          | cont =>
            obtain ⟨σ6, H6, S6, q6⟩ := hsp
            exact ends S6 fun s7 J7 => ⟨_, _, J7, q6⟩
          | ret u =>
            obtain ⟨v6, σ6, H6, S6, r6, q6⟩ := hsp
            exact ends S6 fun s7 J7 => ⟨_, _, _, J7, r6, q6⟩
        | false =>
          show wpAny _ X.A (handleBy (.ref a) X.env hds2) _ _ _
          exact ih (hno rfl)
    exact go hh w
  · cases f with
    | next =>
      obtain ⟨σ', H', J', q⟩ := hsp
      exact wpAny_execs_nil ⟨σ', H', J'.ofTry ok, q⟩
    | brk =>
      obtain ⟨σ', H', J', q⟩ := hsp
      exact ⟨σ', H', J'.ofTry ok, q⟩
    | cont =>
      obtain ⟨σ', H', J', q⟩ := hsp
      exact ⟨σ', H', J'.ofTry ok, q⟩
    | ret u =>
      obtain ⟨v, σ', H', J', r, q⟩ := hsp
      exact ⟨v, σ', H', J'.ofTry ok, r, q⟩
end
end My

set_option Elab.async false
set_option maxRecDepth 100000
set_option maxHeartbeats 4000000
set_option linter.all false
namespace C00
open PySem L2 My
def top (i : Nat) : Stmt := PySem.Challenge.pw_cursorhouse_k00_errors_made.main.body.getD i (.Pass ⟨0, 0, 0, 0⟩)
abbrev sFresh : Stmt := top 11
abbrev sFill : Stmt := top 12
abbrev sTake : Stmt := top 13
abbrev sOne : Stmt := top 14
structure Tx (mg : Str → Option Value) : Prop where
  len : mg "len" = none
  int : mg "int" = none
  enumerate : mg "enumerate" = none
def spFill : Sp := fun vs H Q _ => ∃ (st c : Addr) (ns : List Int), vs = [.ref st] ∧ Drw H st c ns ∧ ns.length ≤ 63 ∧
  ∀ H', Drw H' st c ns → But st H H' → Q .non H'
section
variable {P : Program} {w : World} {K : PySem.W.Frag} {mg : Str → Option Value} {base : Heap}
theorem scFill : FnScope ["_law_state", "_law_cells", "_law_nth", "_law_seed", "_law_k", "_law_prime", "_law_far"] ["_law_state"] (defScope sFill) := ⟨rfl, rfl, rfl, by decide +kernel, rfl, by decide +kernel, by decide +kernel⟩
theorem pr_fill (D : Df K mg "_law_fill" sFill ["_law_state"]) (T : Tx mg) : Pr P w K mg base 1 "_law_fill" ["_law_state"] spFill := by
  refine D.pr scFill (fun vs H Q E h => ?_) (fun f cdv A outer s H vs Q E hr h => ?_)
  · obtain ⟨p, c, ns, rfl, _⟩ := h
    rfl
  · obtain ⟨st, c, ns, rfl, dr, hn, k⟩ := h
    have nd := scFill.nd
    have hne := dr.ne
    obtain ⟨hc, n, v, b, n0, hs⟩ := id dr
    refine ⟨_, (pss_cons (ps_par (by rfl) nd (i := 1) (j := 2) rfl rfl (by decide) rfl rfl (pa_cons (pe_ix ix_list (pv 0) pe_int (fun _ _ => rfl)) (pa_cons (pe_ix ix_list (pv 0) pe_int (fun _ _ => rfl)) pa_nil)) (by rfl))
      (pss_cons (ps_asg (pe_op op_add (pe_op op_mul pe_int (pv 2)) pe_int) (pg_name (i := 3) nd rfl (Or.inl rfl)))
      (Evl.pss_cut (ps_if (pt_cmpR op_gt (pe_callB call_len (by rfl) T.len PySem.boot_len (pa_cons (pv 1) pa_nil)) pe_int (nomark _))
        (pss_one (ps_asg (pe_op op_add (pe_op op_mul pe_int (pe_op op_fdivN (pv 2) (pe_callB call_len (by rfl) T.len PySem.boot_len (pa_cons (pv 1) pa_nil)))) (pe_ix ix_list (pv 1) (pe_op op_modN (pe_callTy call_int1 (by rfl) T.int (by decide +kernel) (pa_cons (pv 2) pa_nil)) (pe_callB call_len (by rfl) T.len PySem.boot_len (pa_cons (pv 1) pa_nil))) (fun _ _ => rfl))) (pg_name (i := 3) nd rfl (Or.inl rfl))))
        pss_nil)
      (pss_cons (ps_asg (pe_op op_add (pv 2) pe_int) (pg_sub (pv 0) pe_int set_list))
      (Evl.pss_cut (ps_asg (pe_or (pe_cmpR op_ge (pv 2) (pe_callB call_len (by rfl) T.len PySem.boot_len (pa_cons (pv 1) pa_nil)) (nomark _)) (pe_one (pe_cmpR op_lt (pv 3) (pe_op op_pow pe_int pe_int) (nomark _)))) (pg_sub (pv 0) pe_int set_list))
      (pss_cons (ps_asg (pe_op op_sub (pv 3) (pe_op op_pow pe_int pe_int)) (pg_sub (pv 0) pe_int set_list))
      (pss_one (ps_if (pt_val (pe_ix ix_list (pv 0) pe_int (fun _ _ => rfl)))
        (pss_cons (ps_asg pe_int (pg_sub (pv 0) pe_int set_list))
        (pss_one (ps_for PassesOwn.never rfl (pi_enumT (by rfl) T.enumerate (pa_cons (pe_tup (pa_cons pe_int (pa_cons pe_int (pa_cons pe_int (pa_cons pe_int (pa_cons pe_int pa_nil)))))) pa_nil)) (pg_tup rfl (pgs_cons (pg_name (i := 4) nd rfl (Or.inl rfl)) (pgs_cons (pg_name (i := 5) nd rfl (Or.inl rfl)) pgs_nil)))
          (pss_cons (ps_asg (pe_op op_modN (pe_callTy call_int1 (by rfl) T.int (by decide +kernel) (pa_cons (pe_op op_mul (pe_op op_add (pe_op op_add (pv 3) (pe_op op_mul (pe_op op_mul pe_int (pv 4)) (pv 4))) (pe_op op_mul pe_int (pv 4))) (pe_op op_add pe_int (pe_op op_mul pe_int (pv 4)))) pa_nil)) (pv 5)) (pg_name (i := 6) nd rfl (Or.inl rfl)))
          (pss_one (ps_asg (pe_op op_add (pe_op op_mul (pe_ix ix_list (pv 0) pe_int (fun _ _ => rfl)) (pv 5)) (pe_op op_modN (pe_callTy call_int1 (by rfl) T.int (by decide +kernel) (pa_cons (pe_op op_pow (pv 6) pe_int) pa_nil)) (pv 5))) (pg_sub (pv 0) pe_int set_list)))))))
        pss_nil)))))))), ?_⟩
    refine ⟨_, rfl, _, _, _, _, rfl, rfl, SqL.of hs, rfl, _, rfl, _, _, _, _, rfl, rfl, SqL.of hs, rfl, _, _, rfl, ?_⟩
    refine ⟨_, rfl, _, _, rfl, rfl, .inl ⟨by decide, by decide⟩, _, _, rfl, rfl, ?_⟩
    refine ⟨fun σ' H' => H' = H ∧ ∃ z : Int, σ' = [some (.ref st), some (.ref c), some (.int n), some (.int z), none, none, none], ?_, ?_⟩
    · refine ⟨_, rfl, _, _, rfl, .inl ⟨_, SqL.of hc, rfl⟩, _, _, rfl, rfl, _, rfl, ?_⟩
      refine ite2 (fun h0 => ?_) (fun _ => ⟨rfl, _, rfl⟩)
      have hl0 : (0 : Int) < ((ns.map V.int).length : Int) := of_decide_eq_true h0
      have hlen : (ns.map V.int).length = ns.length := List.length_map ..
      have hm0 : 0 ≤ n.fmod ((ns.map V.int).length : Int) := Int.fmod_nonneg_of_pos n hl0
      have hm1 : n.fmod ((ns.map V.int).length : Int) < ((ns.map V.int).length : Int) := Int.fmod_lt_of_pos n hl0
      obtain ⟨j, hj⟩ := Int.eq_ofNat_of_zero_le hm0
      have hjl : j < ns.length := by omega
      refine ⟨_, rfl, _, rfl, _, _, rfl, .inl ⟨_, SqL.of hc, rfl⟩, _, _, rfl, rfl, ⟨by omega, by omega⟩, _, _, rfl, rfl, .inl ⟨by decide, by decide⟩, ?_⟩
      refine ⟨_, rfl, _, rfl, .inl ⟨_, rfl, ?_⟩⟩
      refine ⟨_, rfl, _, _, rfl, .inl ⟨_, SqL.of hc, rfl⟩, _, _, rfl, rfl, by omega, ?_⟩
      refine ⟨_, _, _, .int ns[j], rfl, rfl, SqL.of hc, ?_, _, _, rfl, rfl, rfl, _, rfl⟩
      rw [hj]
      exact atI_nat (by simp [hjl])
    · rintro σ' H' ⟨rfl, z, rfl⟩
      -- state[1] = nth + 1; state[3] = ..
      refine ⟨_, rfl, _, _, rfl, rfl, _, rfl, _, _, _, _, rfl, rfl, hs, rfl, ?_⟩
      refine ⟨fun σ' H1 => σ' = [some (.ref st), some (.ref c), some (.int n), some (.int z), none, none, none] ∧ ∃ b2, H1 = upd H' st (.lst [.ref c, .int (n + 1), .int v, .bl b2]), ?_, ?_⟩
      · refine ⟨_, rfl, _, rfl, _, _, rfl, .inl ⟨_, SqL.of (Eq.trans (upd_ne hne) hc), rfl⟩, _, _, rfl, rfl, _, rfl, ?_⟩
        refine ite2 (fun h0 => ?_) (fun _ => ?_)
        · exact ⟨_, rfl, _, _, _, _, rfl, rfl, upd_same, rfl, rfl, _, upd_upd⟩
        · refine ⟨_, rfl, _, _, rfl, rfl, ⟨by decide, by decide, by decide⟩, _, _, rfl, rfl, ?_⟩
          exact ⟨_, rfl, _, _, _, _, rfl, rfl, upd_same, rfl, rfl, _, upd_upd⟩
      · rintro σ' H1 ⟨rfl, b2, rfl⟩
        refine ⟨_, rfl, _, _, rfl, rfl, ⟨by decide, by decide, by decide⟩, _, _, rfl, rfl, _, rfl, _, _, _, _, rfl, rfl, upd_same, rfl, ?_⟩
        rw [upd_upd]
        refine ⟨_, rfl, _, _, _, _, rfl, rfl, SqL.of upd_same, rfl, _, rfl, ?_⟩
        refine ite2 (fun h0 => ?_) (fun _ => ?_)
        · refine ⟨_, rfl, _, _, _, _, rfl, rfl, upd_same, rfl, ?_⟩
          rw [upd_upd]
          refine ⟨by decide, fun tp htp => ⟨_, _, rfl, SqT.of upd_same, ?_⟩⟩
          have dr2 := (dr.put (n := n + 1) (v := 0) (b := b2) (by omega)).new (o := .tup [.int 2147483647, .int 2147483629, .int 2147483587, .int 2147483579, .int 2147483563]) htp
          refine for_it (walk_enumT (xs := [.int 2147483647, .int 2147483629, .int 2147483587, .int 2147483579, .int 2147483563])) (fun i σ H2 => (∃ o4 o5 o6, σ = [some (.ref st), some (.ref c), some (.int n), some (.int z), o4, o5, o6]) ∧ Drw H2 st c ns ∧ But st H' H2 ∧ H2 tp = some (.tup [.int 2147483647, .int 2147483629, .int 2147483587, .int 2147483579, .int 2147483563]))
            ⟨⟨_, _, _, rfl⟩, dr2, (But.refl _ _).upd.new htp, upd_same⟩ (fun i σ H2 _ q => SqT.of q.2.2.2) ?_ ?_
          · rintro i x σ H2 H3 hi ⟨⟨o4, o5, o6, rfl⟩, d2, b2', ht⟩ ⟨T2, i', pr, rfl, hT2, rfl, ei, ep⟩
            obtain rfl : V.int (i : Nat) = i' := Option.some.inj ei
            have hi5 : i < 5 := hi
            obtain ⟨q, rfl, q0, q1⟩ : ∃ q : Int, pr = .int q ∧ 0 < q ∧ q < 4294967296 := by
              have hh : i = 0 ∨ i = 1 ∨ i = 2 ∨ i = 3 ∨ i = 4 := by omega
              rcases hh with rfl | rfl | rfl | rfl | rfl <;> exact ⟨_, (Option.some.inj ep).symm, by decide, by decide⟩
            have d3 := d2.new (o := .tup [.int (i : Nat), .int q]) hT2
            obtain ⟨hc3, n3, v3, b3, n30, hs3⟩ := id d3
            have hst : st ≠ tp := ne_of d2.2.choose_spec.choose_spec.choose_spec.2 ht (by intro z; cases z)
            refine ⟨_, _, rfl, SqT.of upd_same, rfl, _, _, rfl, _, _, rfl, rfl, ?_⟩
            have mI : (-18446744073709551616 : Int) < (i : Int) ∧ (i : Int) < 18446744073709551616 := ⟨by omega, by omega⟩
            refine ⟨_, rfl, _, rfl, _, _, rfl, rfl, .inr mI, _, rfl, _, _, rfl, rfl, .inr mI, _, _, rfl, rfl, _, rfl, _, _, rfl, rfl, .inr mI, _, _, rfl, rfl, _, rfl, _, _, rfl, rfl, .inr mI, _, _, rfl, rfl, _, _, rfl, rfl, .inr ⟨by omega, by omega⟩, .inl ⟨_, rfl, ?_⟩⟩
            refine ⟨_, rfl, _, _, rfl, rfl, by omega, ?_⟩
            have pB : ∀ x : Int, (x.fmod q).natAbs < 2 ^ 64 := fun x => by
              have f0 := Int.fmod_nonneg_of_pos x q0
              have f1 := Int.fmod_lt_of_pos x q0
              omega
            refine ⟨_, rfl, _, _, _, _, rfl, rfl, SqL.of hs3, rfl, _, rfl, _, _, rfl, rfl, .inr ⟨by omega, by omega⟩, _, rfl, _, _, rfl, rfl, ⟨by decide, by decide, pB _⟩, .inl ⟨_, rfl, ?_⟩⟩
            refine ⟨_, rfl, _, _, rfl, rfl, by omega, _, _, rfl, rfl, _, rfl, _, _, _, _, rfl, rfl, hs3, rfl, ?_⟩
            exact ⟨⟨_, _, _, rfl⟩, d3.put n30, (b2'.new hT2).upd, by rw [upd_ne hst.symm, upd_ne (ne_of_none ht hT2)]; exact ht⟩
          · rintro σ H2 ⟨⟨o4, o5, o6, rfl⟩, d2, b2', ht⟩
            exact k _ d2 b2'
        · exact k _ (dr.put (by omega)) (But.refl _ _).upd
def spTake : Sp := fun vs H Q _ => ∃ (st c : Addr) (ns : List Int) (m : Int), vs = [.ref st, .int m] ∧ Drw H st c ns ∧ ns.length ≤ 63 ∧ 0 < m ∧ m ≤ 10000 ∧
  ∀ (d : Int) (H' : Hp), 0 ≤ d → d < m → Drw H' st c ns → But st H H' → Q (.int d) H'
theorem scTake : FnScope ["_law_state", "_law_many", "_law_turns", "_law_digit"] ["_law_state", "_law_many"] (defScope sTake) := ⟨rfl, rfl, rfl, by decide +kernel, rfl, by decide +kernel, by decide +kernel⟩
theorem pr_take (D : Df K mg "_law_take" sTake ["_law_state", "_law_many"]) (T : Tx mg) (PF : Pr P w K mg base 1 "_law_fill" ["_law_state"] spFill) : Pr P w K mg base 2 "_law_take" ["_law_state", "_law_many"] spTake := by
  refine D.pr scTake (fun vs H Q E h => ?_) (fun f cdv A outer s H vs Q E hr h => ?_)
  · obtain ⟨p, c, ns, m, rfl, _⟩ := h
    rfl
  · obtain ⟨st, c, ns, m, rfl, dr, hn, m0, m1, k⟩ := h
    have nd := scTake.nd
    refine ⟨_, (pss_cons (ps_asg pe_int (pg_name (i := 2) nd rfl (Or.inl rfl)))
      (Evl.pss_cut (ps_while PassesOwn.never (PW.pt (pw_and (pt_cmpR op_lt (pv 2) pe_int (nomark _)) (pw_and1 (PW.pt (pw_or (pt_cmpR op_eq (pe_ix ix_list (pv 0) pe_int (fun _ _ => rfl)) pe_int (nomark _)) (pw_or1 (PW.pt (pw_and (pt_val (pe_ix ix_list (pv 0) pe_int (fun _ _ => rfl))) (pw_and1 (pt_cmpR op_lt (pe_ix ix_list (pv 0) pe_int (fun _ _ => rfl)) (pe_op op_mul (pv 1) pe_int) (nomark _)))))))))))
        (pss_cons (ps_expr (pe_callP PF hr (by rfl) (pa_cons (pv 0) pa_nil)))
        (pss_cons (ps_aug (i := 2) nd rfl (Or.inl rfl) pe_int ip_add)
        (pss_one (ps_if (PW.pt (pw_and (pt_val (pe_ix ix_list (pv 0) pe_int (fun _ _ => rfl))) (pw_and1 (pt_cmpR op_lt (pe_ix ix_list (pv 0) pe_int (fun _ _ => rfl)) (pe_op op_mul (pv 1) pe_int) (nomark _)))))
          (pss_one (ps_asg (pe_op op_add (pe_ix ix_list (pv 0) pe_int (fun _ _ => rfl)) (pe_op op_mul (pe_op op_mul (pv 1) pe_int) (pe_op op_add pe_int (pe_op op_modN (pe_callTy call_int1 (by rfl) T.int (by decide +kernel) (pa_cons (pe_ix ix_list (pv 0) pe_int (fun _ _ => rfl)) pa_nil)) pe_int)))) (pg_sub (pv 0) pe_int set_list)))
          pss_nil)))))
      (pss_cons (ps_asg (pe_op op_modN (pe_callTy call_int1 (by rfl) T.int (by decide +kernel) (pa_cons (pe_ix ix_list (pv 0) pe_int (fun _ _ => rfl)) pa_nil)) (pv 1)) (pg_name (i := 3) nd rfl (Or.inl rfl)))
      (pss_cons (ps_asg (pe_op op_fdivN (pe_ix ix_list (pv 0) pe_int (fun _ _ => rfl)) (pv 1)) (pg_sub (pv 0) pe_int set_list))
      (pss_one (ps_ret (pv 3))))))), ?_⟩
    refine ⟨fun σ' H1 => ∃ (t : Int) (o3 : Option V), σ' = [some (.ref st), some (.int m), some (.int t), o3] ∧ Drw H1 st c ns ∧ But st H H1, ?_, ?_⟩
    · refine ⟨fun j σ H1 => ∃ (t : Int) (o3 : Option V), σ = [some (.ref st), some (.int m), some (.int t), o3] ∧ 0 ≤ t ∧ (j : Int) = 64 - t ∧ Drw H1 st c ns ∧ But st H H1, ⟨64, 0, _, rfl, by decide, rfl, dr, But.refl _ _⟩, ?_⟩
      rintro j σ H1 ⟨t, o3, rfl, t0, hj, d1, b1⟩
      obtain ⟨hc, n, v, b, n0, hs⟩ := id d1
      refine ⟨_, rfl, _, _, rfl, rfl, _, rfl, ?_⟩
      refine ite2 (fun ht => ?_) (fun _ => ?_)
      · have ht' : t < 64 := of_decide_eq_true ht
        refine tt_any (fun K' kT kF => ?_) ?_ ?_
        · refine ⟨_, rfl, _, _, _, _, rfl, rfl, SqL.of hs, rfl, rfl, _, rfl, ?_⟩
          refine ite2 (fun _ => kT) (fun _ => ?_)
          refine ⟨_, rfl, _, _, _, _, rfl, rfl, SqL.of hs, rfl, _, rfl, ?_⟩
          refine ite2 (fun _ => ?_) (fun _ => kF)
          refine ⟨_, rfl, _, _, _, _, rfl, rfl, SqL.of hs, rfl, _, rfl, _, _, rfl, rfl, .inr ⟨by decide, by decide⟩, _, _, rfl, rfl, _, rfl, ?_⟩
          exact ite3 (fun _ => kT) (fun _ => kF)
        · refine iteT ⟨fun σ' H2 => ∃ o3', σ' = [some (.ref st), some (.int m), some (.int (t + 1)), o3'] ∧ Drw H2 st c ns ∧ But st H H2, fun σ' H2 ⟨o3', e, d2, b2⟩ => ⟨j - 1, by omega, t + 1, o3', e, by omega, by omega, d2, b2⟩, ?_⟩
          refine ⟨_, rfl, st, c, ns, rfl, d1, hn, fun H2 d2 b2 => ?_⟩
          obtain ⟨hc2, n2, v2, w2, n20, hs2⟩ := id d2
          refine ⟨_, rfl, _, _, rfl, rfl, ?_⟩
          dsimp only
          unfold tIfS
          refine tt_any (fun K' kT kF => ?_) ?_ ?_
          · refine ⟨_, rfl, _, _, _, _, rfl, rfl, SqL.of hs2, rfl, _, rfl, ?_⟩
            refine ite2 (fun _ => ?_) (fun _ => kF)
            refine ⟨_, rfl, _, _, _, _, rfl, rfl, SqL.of hs2, rfl, _, rfl, _, _, rfl, rfl, .inr ⟨by decide, by decide⟩, _, _, rfl, rfl, _, rfl, ?_⟩
            exact ite3 (fun _ => kT) (fun _ => kF)
          · refine iteT ?_
            refine ⟨_, rfl, _, _, _, _, rfl, rfl, SqL.of hs2, rfl, _, rfl, _, _, rfl, rfl, .inr ⟨by decide, by decide⟩, ?_⟩
            refine ⟨_, rfl, _, _, _, _, rfl, rfl, SqL.of hs2, rfl, .inl ⟨_, rfl, ?_⟩⟩
            refine ⟨_, _, rfl, rfl, (by show (4093 : Int) ≠ 0; decide), _, _, rfl, rfl, _, _, rfl, rfl, .inl ⟨by omega, by omega⟩, _, _, rfl, rfl, _, rfl, _, _, _, _, rfl, rfl, hs2, rfl, ?_⟩
            exact ⟨_, rfl, d2.put n20, (b1.trans b2).upd⟩
          · refine iteF ?_
            exact ⟨_, rfl, d2, b1.trans b2⟩
        · exact iteF ⟨_, _, rfl, d1, b1⟩
      · exact iteF ⟨_, _, rfl, d1, b1⟩
    · rintro σ' H1 ⟨t, o3, rfl, d1, b1⟩
      obtain ⟨hc, n, v, b, n0, hs⟩ := id d1
      refine ⟨_, rfl, _, _, _, _, rfl, rfl, SqL.of hs, rfl, .inl ⟨_, rfl, ?_⟩⟩
      refine ⟨_, rfl, _, _, rfl, rfl, by omega, ?_⟩
      refine ⟨_, rfl, _, _, _, _, rfl, rfl, SqL.of hs, rfl, _, rfl, _, _, rfl, rfl, ⟨by omega, by omega⟩, _, rfl, _, _, _, _, rfl, rfl, hs, rfl, ?_⟩
      exact ⟨_, rfl, k _ _ (Int.fmod_nonneg_of_pos _ m0) (Int.fmod_lt_of_pos _ m0) (d1.put n0) b1.upd⟩
/-- one of the things of a list or tuple -/
def spOne (K : PySem.W.Frag) : Sp := fun vs H Q _ => ∃ (st c a : Addr) (ns : List Int) (xs : List V), vs = [.ref st, .ref a] ∧ Drw H st c ns ∧ ns.length ≤ 63 ∧ a ≠ st ∧ (SqL K H a xs ∨ SqT K H a xs) ∧ 0 < xs.length ∧ xs.length ≤ 10000 ∧
  ∀ (x : V) (H' : Hp), x ∈ xs → Drw H' st c ns → But st H H' → Q x H'
theorem scOne : FnScope ["_law_state", "_law_things"] ["_law_state", "_law_things"] (defScope sOne) := ⟨rfl, rfl, rfl, by decide +kernel, rfl, by decide +kernel, by decide +kernel⟩
theorem pr_one (D : Df K mg "_law_one" sOne ["_law_state", "_law_things"]) (T : Tx mg) (PT : Pr P w K mg base 2 "_law_take" ["_law_state", "_law_many"] spTake) : Pr P w K mg base 3 "_law_one" ["_law_state", "_law_things"] (spOne K) := by
  refine D.pr scOne (fun vs H Q E h => ?_) (fun f cdv A outer s H vs Q E hr h => ?_)
  · obtain ⟨p, c, a, ns, xs, rfl, _⟩ := h
    rfl
  · obtain ⟨st, c, a, ns, xs, rfl, dr, hn, hne, hx, x0, x1, k⟩ := h
    refine ⟨_, (pss_one (ps_ret (pe_ix ix_seq (pv 1) (pe_callP PT hr (by rfl) (pa_cons (pv 0) (pa_cons (pe_callB call_len (by rfl) T.len PySem.boot_len (pa_cons (pv 1) pa_nil)) pa_nil))) (fun _ _ => rfl)))), ?_⟩
    refine ⟨_, rfl, _, rfl, _, rfl, _, xs.length, rfl, ?_, ?_⟩
    · rcases hx with h | h
      · exact .inl ⟨_, h, rfl⟩
      · exact .inr ⟨_, h, rfl⟩
    · refine ⟨st, c, ns, _, rfl, dr, hn, by omega, by omega, fun d H' d0 d1 dr' bt => ?_⟩
      obtain ⟨j, rfl⟩ := Int.eq_ofNat_of_zero_le d0
      have hj : j < xs.length := by omega
      rcases hx with h | h
      · exact .inl ⟨_, _, _, _, rfl, rfl, My.But.sqL bt hne h, atI_nat (List.getElem?_eq_getElem hj), k _ _ (List.getElem_mem hj) dr' bt⟩
      · exact .inr (.inl ⟨_, _, _, _, rfl, rfl, My.But.sqT bt hne h, atI_nat (List.getElem?_eq_getElem hj), k _ _ (List.getElem_mem hj) dr' bt⟩)
def spFresh (K : PySem.W.Frag) : Sp := fun vs H Q _ => ∃ (a : Addr) (ns : List Int), vs = [.ref a] ∧ SqL K H a (ns.map V.int) ∧ ns.length ≤ 63 ∧
  ∀ (st c : Addr) (H' : Hp), H st = none → H c = none → Drw H' st c ns → Same H H' → Q (.ref st) H'
theorem scFresh : FnScope ["_law_script"] ["_law_script"] (defScope sFresh) := ⟨rfl, rfl, rfl, by decide +kernel, rfl, by decide +kernel, by decide +kernel⟩
theorem pr_fresh (D : Df K mg "_law_fresh" sFresh ["_law_script"]) : Pr P w K mg base 1 "_law_fresh" ["_law_script"] (spFresh K) := by
  refine D.pr scFresh (fun vs H Q E h => ?_) (fun f cdv A outer s H vs Q E hr h => ?_)
  · obtain ⟨a, ns, rfl, _⟩ := h
    rfl
  · obtain ⟨a, ns, rfl, ha, hn, k⟩ := h
    refine ⟨_, (pss_one (ps_ret (pe_lst (pa_cons (pe_slice sl_list (pv 0) po_none (po_some pe_int)) (pa_cons pe_int (pa_cons pe_int (pa_cons pe_bl pa_nil))))))), ?_⟩
    refine ⟨_, rfl, _, rfl, _, _, rfl, ha, fun c hc => ⟨(by show 4 ≤ sizeLine; decide), fun st hst => ?_⟩⟩
    have e : cutV (ns.map V.int) none (some 63) = ns.map V.int := by
      have h1 : HT.sIx (ns.map V.int).length 0 none = 0 := rfl
      have h2 : (ns.map V.int).length ≤ HT.sIx (ns.map V.int).length (ns.map V.int).length (some 63) := by
        rw [List.length_map]
        show ns.length ≤ HT.sIx ns.length ns.length (some 63)
        unfold HT.sIx
        simp
        omega
      unfold cutV
      rw [h1, List.drop_zero, Nat.sub_zero, List.take_of_length_le h2]
    have hst0 : H st = none := by
      by_cases q : st = c
      · rw [q, upd_same] at hst
        cases hst
      · rw [upd_ne q] at hst
        exact hst
    refine k st c _ hst0 hc ⟨?_, 0, 0, false, by decide, upd_same⟩ fun b o hb => ?_
    · rw [upd_ne (ne_of_none upd_same hst), upd_same, e]
    · rw [upd_ne (ne_of_none hb hst0), upd_ne (ne_of_none hb hc)]
      exact hb
end
end C00

set_option Elab.async false
set_option maxRecDepth 100000
set_option maxHeartbeats 4000000
set_option linter.all false
namespace C00
open PySem L2 My
abbrev sSame : Stmt := top 15
structure Ty (mg : Str → Option Value) : Prop where
  len : mg "len" = none
  int : mg "int" = none
  bool : mg "bool" = none
  list : mg "list" = none
  tuple : mg "tuple" = none
  isinstance : mg "isinstance" = none
  all : mg "all" = none
  zip : mg "zip" = none
def spS : Nat → Sp
  | 0 => fun _ _ _ _ => False
  | n + 1 => spSame n
section
variable {P : Program} {w : World} {K : PySem.W.Frag} {mg : Str → Option Value} {base : Heap}
abbrev nSame : List Str := ["_law_found", "_law_due", "_law_alike", "_law_a", "_law_b"]
theorem scSame : FnScope nSame ["_law_found", "_law_due"] (defScope sSame) := ⟨rfl, rfl, rfl, by decide +kernel, rfl, by decide +kernel, by decide +kernel⟩
theorem step_same {n : Nat} (D : Df K mg "_law_same" sSame ["_law_found", "_law_due"]) (T : Ty mg) (PS : Pr P w K mg base n "_law_same" ["_law_found", "_law_due"] (spS n)) : Pr P w K mg base (n + 1) "_law_same" ["_law_found", "_law_due"] (spSame n) := by
  refine D.pr scSame (fun vs H Q E h => ?_) (fun f cdv A outer s H vs Q E hr h => ?_)
  · obtain ⟨m, x, y, d, o, rfl, _⟩ := h
    rfl
  · obtain ⟨m, x, y, d, o, rfl, hm, hx, hy, lv, k⟩ := h
    have nd := scSame.nd
    refine ⟨_, (pss_cons (ps_if (pt_val (pe_callB call_isiT (by rfl) T.isinstance (by decide +kernel) (pa_cons (pv 1) (pa_cons (pe_tup (pa_cons (pe_bltn (v := .ty "list") (by rfl) T.list (by decide +kernel) rfl) (pa_cons (pe_bltn (v := .ty "tuple") (by rfl) T.tuple (by decide +kernel) rfl) pa_nil))) pa_nil))))
        (pss_cons (ps_if (PW.pt (pw_or (pt_cmpR op_ne (pe_callB call_isi (by rfl) T.isinstance (by decide +kernel) (pa_cons (pv 0) (pa_cons (pe_bltn (v := .ty "list") (by rfl) T.list (by decide +kernel) rfl) pa_nil))) (pe_callB call_isi (by rfl) T.isinstance (by decide +kernel) (pa_cons (pv 1) (pa_cons (pe_bltn (v := .ty "list") (by rfl) T.list (by decide +kernel) rfl) pa_nil))) (nomark _)) (pw_or1 (pt_cmpR op_ne (pe_callB call_isi (by rfl) T.isinstance (by decide +kernel) (pa_cons (pv 0) (pa_cons (pe_bltn (v := .ty "tuple") (by rfl) T.tuple (by decide +kernel) rfl) pa_nil))) (pe_callB call_isi (by rfl) T.isinstance (by decide +kernel) (pa_cons (pv 1) (pa_cons (pe_bltn (v := .ty "tuple") (by rfl) T.tuple (by decide +kernel) rfl) pa_nil))) (nomark _)))))
          (pss_one (ps_ret pe_bl))
          pss_nil)
        (pss_one (ps_ret (pe_and (pe_cmpR op_eq (pe_callB call_len (by rfl) T.len PySem.boot_len (pa_cons (pv 0) pa_nil)) (pe_callB call_len (by rfl) T.len PySem.boot_len (pa_cons (pv 1) pa_nil)) (nomark _)) (pe_one (pe_callB (cr_all rfl) (by rfl) T.all (by decide +kernel) (pa_cons (pe_lc (own := [("_law_a", 3), ("_law_b", 4)]) (g := gTup K 2 (gCons (gName 3) (gCons (gName 4) gNil))) (tt := tYes) (by rfl) nd (RZ.pi_zipA (by rfl) T.zip (pa_cons (pv 0) (pa_cons (pv 1) pa_nil)))
  (blkOk_by (own := [("_law_a", 3), ("_law_b", 4)]) (N := nSame) (sc := defScope sSame) (by decide +kernel))
  (fun _ _ _ _ _ => pg_tup rfl (pgs_cons (pg_name (i := 3) nd rfl (Or.inl rfl) (Or.inr rfl)) (pgs_cons (pg_name (i := 4) nd rfl (Or.inl rfl) (Or.inr rfl)) pgs_nil))) (fun _ _ _ _ _ => pts_nil)
  (fun _ _ _ _ _ => (pe_callP PS hr (by rfl) (pa_cons (pv 3) (pa_cons (pv 4) pa_nil))))) pa_nil)))))))
        pss_nil)
      (pss_cons (ps_if (pt_val (pe_callB call_isi (by rfl) T.isinstance (by decide +kernel) (pa_cons (pv 1) (pa_cons (pe_bltn (v := .ty "int") (by rfl) T.int (by decide +kernel) rfl) pa_nil))))
        (pss_cons (ps_asg (pe_cmpR op_eq (pe_callB call_isi (by rfl) T.isinstance (by decide +kernel) (pa_cons (pv 0) (pa_cons (pe_bltn (v := .ty "bool") (by rfl) T.bool (by decide +kernel) rfl) pa_nil))) (pe_callB call_isi (by rfl) T.isinstance (by decide +kernel) (pa_cons (pv 1) (pa_cons (pe_bltn (v := .ty "bool") (by rfl) T.bool (by decide +kernel) rfl) pa_nil))) (nomark _)) (pg_name (i := 2) nd rfl (Or.inl rfl)))
        (pss_one (ps_ret (pe_and (pv 2) (pe_and (pe_callB call_isi (by rfl) T.isinstance (by decide +kernel) (pa_cons (pv 0) (pa_cons (pe_bltn (v := .ty "int") (by rfl) T.int (by decide +kernel) rfl) pa_nil))) (pe_one (pe_cmpR op_eq (pv 0) (pv 1) (nomark _))))))))
        pss_nil)
      (pss_one (ps_ret (pe_and (pe_cmpR op_isBl (pe_callB call_isiT (by rfl) T.isinstance (by decide +kernel) (pa_cons (pv 0) (pa_cons (pe_tup (pa_cons (pe_bltn (v := .ty "bool") (by rfl) T.bool (by decide +kernel) rfl) (pa_cons (pe_bltn (v := .ty "int") (by rfl) T.int (by decide +kernel) rfl) (pa_cons (pe_bltn (v := .ty "list") (by rfl) T.list (by decide +kernel) rfl) (pa_cons (pe_bltn (v := .ty "tuple") (by rfl) T.tuple (by decide +kernel) rfl) pa_nil))))) pa_nil))) pe_bl (nomark _)) (pe_one (pe_cmpR op_eq (pv 0) (pv 1) (nomark _)))))))), ?_⟩
    refine ⟨_, rfl, (by show 2 ≤ sizeLine; decide), fun tp htp => ?_⟩
    have s1 : Same H (upd H tp (.tup [.ty "list", .ty "tuple"])) := fun b o e => by
      rw [upd_ne (ne_of_none e htp)]
      exact e
    have hx1 := hx.mono (Same.but s1)
    have hy1 := hy.mono (Same.but s1)
    have hxs : ∀ H', Same H H' → At m H' x d := fun H' s => hx.mono (Same.but s)
    cases lv with
    | non n =>
      cases hx
      cases hy
      refine ⟨_, _, _, _, _, false, rfl, upd_same, cls_all ["list", "tuple"], (hy1).ty, kit_any k_NoneType_lt, ?_⟩
      refine ⟨_, rfl, iteF ?_⟩
      refine ⟨_, rfl, ?_⟩
      refine ⟨_, _, _, _, false, rfl, .ty _, hy1.ty, kit_ty k_NoneType_int, ?_⟩
      refine ⟨_, rfl, iteF ?_⟩
      refine ⟨_, rfl, (by show 4 ≤ sizeLine; decide), fun tq htq => ?_⟩
      have s2 : Same H (upd (upd H tp (.tup [.ty "list", .ty "tuple"])) tq (.tup [.ty "bool", .ty "int", .ty "list", .ty "tuple"])) := fun b o e => by
        rw [upd_ne (ne_of_none (s1 _ _ e) htq)]
        exact s1 _ _ e
      refine ⟨_, _, _, _, _, false, rfl, upd_same, cls_all ["bool", "int", "list", "tuple"], (hxs _ s2).ty, kit_any k_NoneType_bilt, ?_⟩
      refine ⟨_, _, rfl, rfl, _, rfl, iteT ?_⟩
      refine ⟨_, rfl, _, rfl, rfl, ?_⟩
      rw [decide_eq_true rfl]
      exact k _ s2
    | bl n b =>
      cases hx
      cases hy
      refine ⟨_, _, _, _, _, false, rfl, upd_same, cls_all ["list", "tuple"], (hy1).ty, kit_any k_bool_lt, ?_⟩
      refine ⟨_, rfl, iteF ?_⟩
      refine ⟨_, rfl, ?_⟩
      refine ⟨_, _, _, _, true, rfl, .ty _, hy1.ty, kit_ty k_bool_int, ?_⟩
      refine ⟨_, rfl, iteT ?_⟩
      refine ⟨_, rfl, ?_⟩
      refine ⟨_, _, _, _, true, rfl, .ty _, hx1.ty, kit_ty k_bool_bool, ?_⟩
      refine ⟨_, rfl, ?_⟩
      refine ⟨_, _, _, _, true, rfl, .ty _, hy1.ty, kit_ty k_bool_bool, ?_⟩
      refine ⟨rfl, ?_⟩
      refine ⟨_, rfl, _, rfl, iteT ?_⟩
      refine ⟨_, rfl, ?_⟩
      refine ⟨_, _, _, _, true, rfl, .ty _, hx1.ty, kit_ty k_bool_int, ?_⟩
      refine ⟨_, rfl, iteT ?_⟩
      refine ⟨_, rfl, _, rfl, rfl, ?_⟩
      rw [decide_eq_true rfl]
      exact k _ s1
    | int n i =>
      cases hx
      cases hy
      refine ⟨_, _, _, _, _, false, rfl, upd_same, cls_all ["list", "tuple"], (hy1).ty, kit_any k_int_lt, ?_⟩
      refine ⟨_, rfl, iteF ?_⟩
      refine ⟨_, rfl, ?_⟩
      refine ⟨_, _, _, _, true, rfl, .ty _, hy1.ty, kit_ty k_int_int, ?_⟩
      refine ⟨_, rfl, iteT ?_⟩
      refine ⟨_, rfl, ?_⟩
      refine ⟨_, _, _, _, false, rfl, .ty _, hx1.ty, kit_ty k_int_bool, ?_⟩
      refine ⟨_, rfl, ?_⟩
      refine ⟨_, _, _, _, false, rfl, .ty _, hy1.ty, kit_ty k_int_bool, ?_⟩
      refine ⟨rfl, ?_⟩
      refine ⟨_, rfl, _, rfl, iteT ?_⟩
      refine ⟨_, rfl, ?_⟩
      refine ⟨_, _, _, _, true, rfl, .ty _, hx1.ty, kit_ty k_int_int, ?_⟩
      refine ⟨_, rfl, iteT ?_⟩
      refine ⟨_, rfl, _, rfl, rfl, ?_⟩
      rw [decide_eq_true rfl]
      exact k _ s1
    | str n z =>
      cases hx
      cases hy
      refine ⟨_, _, _, _, _, false, rfl, upd_same, cls_all ["list", "tuple"], (hy1).ty, kit_any k_str_lt, ?_⟩
      refine ⟨_, rfl, iteF ?_⟩
      refine ⟨_, rfl, ?_⟩
      refine ⟨_, _, _, _, false, rfl, .ty _, hy1.ty, kit_ty k_str_int, ?_⟩
      refine ⟨_, rfl, iteF ?_⟩
      refine ⟨_, rfl, (by show 4 ≤ sizeLine; decide), fun tq htq => ?_⟩
      have s2 : Same H (upd (upd H tp (.tup [.ty "list", .ty "tuple"])) tq (.tup [.ty "bool", .ty "int", .ty "list", .ty "tuple"])) := fun b o e => by
        rw [upd_ne (ne_of_none (s1 _ _ e) htq)]
        exact s1 _ _ e
      refine ⟨_, _, _, _, _, false, rfl, upd_same, cls_all ["bool", "int", "list", "tuple"], (hxs _ s2).ty, kit_any k_str_bilt, ?_⟩
      refine ⟨_, _, rfl, rfl, _, rfl, iteT ?_⟩
      refine ⟨_, rfl, _, rfl, rfl, ?_⟩
      rw [decide_eq_true rfl]
      exact k _ s2
    | lst sz lv0 =>
      rename_i n0 ds0
      obtain ⟨a, xs, nx, ex, qx⟩ : ∃ a xs, a ≠ m ∧ (x = .ref a ∧ H a = some (.lst xs)) ∧ AtAll m H xs ds0 := by
        cases hx with
        | lst n0 h0 q0 => exact ⟨_, _, n0, ⟨rfl, h0⟩, q0⟩
      obtain ⟨b, ys, ny, ey, qy⟩ : ∃ b ys, b ≠ m ∧ (y = .ref b ∧ H b = some (.lst ys)) ∧ AtAll m H ys ds0 := by
        cases hy with
        | lst n0 h0 q0 => exact ⟨_, _, n0, ⟨rfl, h0⟩, q0⟩
      obtain ⟨rfl, ex⟩ := ex
      obtain ⟨rfl, ey⟩ := ey
      have lx := qx.length
      have ly := qy.length
      refine ⟨_, _, _, _, _, true, rfl, upd_same, cls_all ["list", "tuple"], (hy1).ty, kit_any k_list_lt, ?_⟩
      refine ⟨_, rfl, iteT ?_⟩
      refine ⟨_, rfl, ?_⟩
      refine ⟨_, _, _, _, true, rfl, .ty _, hx1.ty, kit_ty k_list_list, ?_⟩
      refine ⟨_, rfl, ?_⟩
      refine ⟨_, _, _, _, true, rfl, .ty _, hy1.ty, kit_ty k_list_list, ?_⟩
      refine ⟨rfl, _, rfl, iteF ?_⟩
      refine ⟨_, rfl, ?_⟩
      refine ⟨_, _, _, _, false, rfl, .ty _, hx1.ty, kit_ty k_list_tuple, ?_⟩
      refine ⟨_, rfl, ?_⟩
      refine ⟨_, _, _, _, false, rfl, .ty _, hy1.ty, kit_ty k_list_tuple, ?_⟩
      refine ⟨rfl, _, rfl, iteF ?_⟩
      refine ⟨_, rfl, _, _, rfl, .inl ⟨_, SqL.of (s1 _ _ ex), rfl⟩, _, rfl, _, _, rfl, .inl ⟨_, SqL.of (s1 _ _ ey), rfl⟩, rfl, ?_⟩
      have el : decide (V.int (xs.length : Int) = V.int (ys.length : Int)) = true := decide_eq_true (by rw [lx, ly])
      refine ⟨true, congrArg V.bl el, iteT ?_⟩
      refine ⟨_, rfl, _, rfl, _, _, _, _, rfl, .inl ⟨SqL.of (s1 _ _ ex), SqL.of (s1 _ _ ey), ?_⟩⟩
      intro Dl hD
      refine lc_it (walk_zipL (lx.trans ly.symm)) (fun i H2 => Same H H2 ∧ H Dl = none ∧ H2 Dl = some (.lst ((List.replicate i true).map V.bl))) ?_ ?_ ?_ ?_
      · exact ⟨fun b o e => by rw [upd_ne (ne_of_none (s1 _ _ e) hD)]; exact s1 _ _ e, s1.free hD, upd_same⟩
      · exact fun i H2 _ q => ⟨SqL.of (q.1 _ _ ex), SqL.of (q.1 _ _ ey)⟩
      · rintro i z H2 H3 hi ⟨sm, nD, hl⟩ ⟨T2, u, v, rfl, hT2, rfl, eu, ev⟩
        have nDT : Dl ≠ T2 := ne_of_none hl hT2
        have s3 : Same H (upd H2 T2 (.tup [u, v])) := fun b o e => by
          rw [upd_ne (ne_of_none (sm _ _ e) hT2)]
          exact sm _ _ e
        obtain ⟨du, e1, au⟩ := qx.get eu
        obtain ⟨dv, e2, av⟩ := qy.get ev
        obtain rfl : du = dv := Option.some.inj (e1.symm.trans e2)
        refine ⟨_, _, rfl, SqT.of upd_same, rfl, _, _, rfl, _, _, rfl, rfl, rfl, ?_⟩
        refine ⟨_, rfl, _, rfl, m, u, v, du, o, rfl, s3 _ _ hm, au.mono (Same.but s3), av.mono (Same.but s3), lv0 _ (List.mem_of_getElem? e1), fun H4 s4 => ?_⟩
        refine ⟨_, s4 _ _ (by rw [upd_ne nDT]; exact hl), ?_, ?_⟩
        · rw [List.length_map, List.length_replicate]
          exact small6 (by omega)
        · refine ⟨fun b o e => ?_, nD, ?_⟩
          · rw [upd_ne (ne_of_none e nD)]
            exact s4 _ _ (s3 _ _ e)
          · rw [upd_same, List.replicate_succ', List.map_append]
            rfl
      · rintro H2 ⟨sm, nD, hl⟩
        refine ⟨_, _, rfl, SqL.of hl, ?_⟩
        have ea : (List.replicate xs.length true).all id = true := by
          rw [List.all_eq_true]
          intro b hb
          rw [List.eq_of_mem_replicate hb]
          rfl
        rw [ea]
        exact k _ sm
    | tup sz lv0 =>
      rename_i n0 ds0
      obtain ⟨a, xs, nx, ex, qx⟩ : ∃ a xs, a ≠ m ∧ (x = .ref a ∧ H a = some (.tup xs)) ∧ AtAll m H xs ds0 := by
        cases hx with
        | tup n0 h0 q0 => exact ⟨_, _, n0, ⟨rfl, h0⟩, q0⟩
      obtain ⟨b, ys, ny, ey, qy⟩ : ∃ b ys, b ≠ m ∧ (y = .ref b ∧ H b = some (.tup ys)) ∧ AtAll m H ys ds0 := by
        cases hy with
        | tup n0 h0 q0 => exact ⟨_, _, n0, ⟨rfl, h0⟩, q0⟩
      obtain ⟨rfl, ex⟩ := ex
      obtain ⟨rfl, ey⟩ := ey
      have lx := qx.length
      have ly := qy.length
      refine ⟨_, _, _, _, _, true, rfl, upd_same, cls_all ["list", "tuple"], (hy1).ty, kit_any k_tuple_lt, ?_⟩
      refine ⟨_, rfl, iteT ?_⟩
      refine ⟨_, rfl, ?_⟩
      refine ⟨_, _, _, _, false, rfl, .ty _, hx1.ty, kit_ty k_tuple_list, ?_⟩
      refine ⟨_, rfl, ?_⟩
      refine ⟨_, _, _, _, false, rfl, .ty _, hy1.ty, kit_ty k_tuple_list, ?_⟩
      refine ⟨rfl, _, rfl, iteF ?_⟩
      refine ⟨_, rfl, ?_⟩
      refine ⟨_, _, _, _, true, rfl, .ty _, hx1.ty, kit_ty k_tuple_tuple, ?_⟩
      refine ⟨_, rfl, ?_⟩
      refine ⟨_, _, _, _, true, rfl, .ty _, hy1.ty, kit_ty k_tuple_tuple, ?_⟩
      refine ⟨rfl, _, rfl, iteF ?_⟩
      refine ⟨_, rfl, _, _, rfl, .inr ⟨_, SqT.of (s1 _ _ ex), rfl⟩, _, rfl, _, _, rfl, .inr ⟨_, SqT.of (s1 _ _ ey), rfl⟩, rfl, ?_⟩
      have el : decide (V.int (xs.length : Int) = V.int (ys.length : Int)) = true := decide_eq_true (by rw [lx, ly])
      refine ⟨true, congrArg V.bl el, iteT ?_⟩
      refine ⟨_, rfl, _, rfl, _, _, _, _, rfl, .inr ⟨SqT.of (s1 _ _ ex), SqT.of (s1 _ _ ey), ?_⟩⟩
      intro Dl hD
      refine lc_it (walk_zipT (lx.trans ly.symm)) (fun i H2 => Same H H2 ∧ H Dl = none ∧ H2 Dl = some (.lst ((List.replicate i true).map V.bl))) ?_ ?_ ?_ ?_
      · exact ⟨fun b o e => by rw [upd_ne (ne_of_none (s1 _ _ e) hD)]; exact s1 _ _ e, s1.free hD, upd_same⟩
      · exact fun i H2 _ q => ⟨SqT.of (q.1 _ _ ex), SqT.of (q.1 _ _ ey)⟩
      · rintro i z H2 H3 hi ⟨sm, nD, hl⟩ ⟨T2, u, v, rfl, hT2, rfl, eu, ev⟩
        have nDT : Dl ≠ T2 := ne_of_none hl hT2
        have s3 : Same H (upd H2 T2 (.tup [u, v])) := fun b o e => by
          rw [upd_ne (ne_of_none (sm _ _ e) hT2)]
          exact sm _ _ e
        obtain ⟨du, e1, au⟩ := qx.get eu
        obtain ⟨dv, e2, av⟩ := qy.get ev
        obtain rfl : du = dv := Option.some.inj (e1.symm.trans e2)
        refine ⟨_, _, rfl, SqT.of upd_same, rfl, _, _, rfl, _, _, rfl, rfl, rfl, ?_⟩
        refine ⟨_, rfl, _, rfl, m, u, v, du, o, rfl, s3 _ _ hm, au.mono (Same.but s3), av.mono (Same.but s3), lv0 _ (List.mem_of_getElem? e1), fun H4 s4 => ?_⟩
        refine ⟨_, s4 _ _ (by rw [upd_ne nDT]; exact hl), ?_, ?_⟩
        · rw [List.length_map, List.length_replicate]
          exact small6 (by omega)
        · refine ⟨fun b o e => ?_, nD, ?_⟩
          · rw [upd_ne (ne_of_none e nD)]
            exact s4 _ _ (s3 _ _ e)
          · rw [upd_same, List.replicate_succ', List.map_append]
            rfl
      · rintro H2 ⟨sm, nD, hl⟩
        refine ⟨_, _, rfl, SqL.of hl, ?_⟩
        have ea : (List.replicate xs.length true).all id = true := by
          rw [List.all_eq_true]
          intro b hb
          rw [List.eq_of_mem_replicate hb]
          rfl
        rw [ea]
        exact k _ sm
theorem pr_same (D : Df K mg "_law_same" sSame ["_law_found", "_law_due"]) (T : Ty mg) : ∀ n, Pr P w K mg base n "_law_same" ["_law_found", "_law_due"] (spS n)
  | 0 => by
    obtain ⟨f, fd, F, b, g⟩ := D
    exact ⟨f, fd, ⟨fun _ _ _ _ h => h.elim, fun _ _ _ _ _ _ _ _ _ _ _ _ _ h => h.elim⟩, g, F.kp, b⟩
  | n + 1 => step_same D T (pr_same D T n)
end
end C00

set_option Elab.async false
set_option maxRecDepth 100000
set_option maxHeartbeats 4000000
set_option linter.all false
namespace C00
open PySem L2 My
abbrev sInit : Stmt := inClass (top 1) 0
abbrev sKinds : Stmt := top 16
abbrev sMade : Stmt := top 17
abbrev sRaised : Stmt := top 18
abbrev sCaught : Stmt := top 19
abbrev fld : Str := "sqlite_errorname"
def clsN : List Str := ["Error", "InterfaceError", "DatabaseError", "DataError", "OperationalError", "IntegrityError", "InternalError", "ProgrammingError", "NotSupportedError"]
def nmN (i : Nat) : Str := clsN.getD i ""
/-- class i is a kind of class j -/
def relB (i j : Nat) : Bool := j == i || (j == 0 || (j == 2 && decide (2 < i)))
/-- what the top has made of the nine classes -/
structure Cls9 (K : PySem.W.Frag) (mg : Str → Option Value) (C : Nat → Addr) (fI : Addr) : Prop where
  oe : ∀ i, i < 9 → OexE K (C i)
  ec : ∀ i, i < 9 → ExcC K (C i)
  no : ∀ i, i < 9 → PySem.W.findIn K (.ref (C i)) fld = some none
  ini : ∀ i, i < 9 → PySem.W.findIn K (.ref (C i)) "__init__" = some (some (.ref fI))
  tI : PySem.W.typeIn K (.ref fI) = some (.type "function")
  g : ∀ i, i < 9 → mg (nmN i) = some (.ref (C i))
  kit : ∀ i j, i < 9 → j < 9 → PySem.W.kitOne K (.ref (C i)) (.ref (C j)) = some (relB i j)
  kitB : ∀ i, i < 9 → PySem.W.kitAny K (.ref (C i)) (["ValueError", "KeyError", "LookupError", "ArithmeticError"].map Value.type) = some false
  exm : ∀ i j, i < 9 → (j = 0 ∨ j = 2) → PySem.W.exmOne K (.ref (C i)) (.ref (C j)) = some (relB i j)
theorem pe_gR {X : Cx} {x : Str} {a : Addr} {pos : Pos} (hg : Gl X x) (hm : X.mg x = some (.ref a)) (hd : (x == ("__debug__" : Str)) = false := by decide) : PE X (.Name x pos) (tC (.ref a)) := pe_glob hg hm rfl hd
theorem same_new {H : Hp} {p : Addr} {o : HO} (h : H p = none) : Same H (upd H p o) := fun b u e => by
  rw [upd_ne (ne_of_none e h)]
  exact e
section
variable {P : Program} {w : World} {K : PySem.W.Frag} {mg : Str → Option Value} {base : Heap} {C : Nat → Addr} {fI : Addr}
def spInit (K : PySem.W.Frag) : Sp := fun vs H Q _ => ∃ (a C : Addr) (v : V), vs = [.ref a, v] ∧ OexE K C ∧ PySem.W.findIn K (.ref C) fld = some none ∧ H a = some (exo a C none) ∧
  ∀ dx, H dx = none → dx ≠ a → Q .non (upd (upd H dx (exd dx [(fld, v)])) a (exo a C (some dx)))
theorem scInit : FnScope ["self", "sqlite_errorname"] ["self", "sqlite_errorname"] (defScope sInit) := ⟨rfl, rfl, rfl, by decide +kernel, rfl, by decide +kernel, by decide +kernel⟩
abbrev FI (K : PySem.W.Frag) (fI : Addr) (fd : FuncData) : Prop := FunD K "__init__" "Error.__init__" (defArgs sInit) (defBody sInit) (defScope sInit) [.non] [] fI fd
theorem ok_init {fd : FuncData} (F : FI K fI fd) : FnOk P w K mg base CX0 1 fI fd ["self", "sqlite_errorname"] (spInit K) := by
  refine F.ok scInit (fun vs H Q E h => ?_) (fun cdv A outer s H vs Q E hr h => ?_)
  · obtain ⟨a, C, v, rfl, _⟩ := h
    rfl
  · obtain ⟨a, C, v, rfl, T, hno, ha, k⟩ := h
    refine ⟨_, pss_one (ps_ostE (pv 0) (pv 1)), ?_⟩
    exact ⟨_, rfl, _, rfl, a, C, rfl, T, hno, ha, k⟩
theorem bI2 {fd : FuncData} (F : FI K fI fd) : Binds K fd ["self", "sqlite_errorname"] [] := by
  obtain ⟨ds, h1, h2⟩ := F.binds1 2 1 (by decide) rfl (ps := ["self", "sqlite_errorname"]) fun T kV doc pm an cdv ct us its h1 h2 => match us, its, h1, h2 with
    | [_, _], [_], _, _ => ⟨_, rfl, rfl⟩
  cases h1
  exact h2
theorem bI1 {fd : FuncData} (F : FI K fI fd) : Binds K fd ["self", "sqlite_errorname"] [.none] := by
  obtain ⟨ds, h1, h2⟩ := F.binds1 1 0 (by decide) rfl (ps := ["self", "sqlite_errorname"]) fun T kV doc pm an cdv ct us its h1 h2 => match us, its, h1, h2 with
    | [_], [_], _, _ => ⟨_, rfl, rfl⟩
  cases h1 with
  | cons r rr =>
    cases rr
    cases r
    exact h2
theorem j_of {X : Cx} {fd : FuncData} (F : FI X.K fI fd) (T : Cls9 X.K X.mg C fI) (i : Nat) (hi : i < 9) :
    IniE X CX0 (C i) fI 1 fd ["self", "sqlite_errorname"] (spInit X.K) [] [] ∧ IniE X CX0 (C i) fI 1 fd ["self", "sqlite_errorname"] (spInit X.K) [.none] [.non] :=
  ⟨⟨T.oe i hi, T.ini i hi, T.tI, ok_init F, bI2 F, .nil⟩, ⟨T.oe i hi, T.ini i hi, T.tI, ok_init F, bI1 F, .cons rfl .nil⟩⟩
def spMade (C : Nat → Addr) : Sp := fun vs H Q _ => ∃ (n : Nat) (wy : Int) (v : V), vs = [.int n, v, .int wy] ∧ n < 9 ∧
  ∀ (a : Addr) (H' : Hp), H a = none → Same H H' → Exv H' a (C n) [(fld, if wy = 0 then .non else v)] → Q (.ref a) H'
theorem mk_done {H : Hp} {v : V} {Q : VK} {i : Nat} (T : Cls9 K mg C fI) (hi : i < 9) (k : ∀ (a : Addr) (H' : Hp), H a = none → Same H H' → Exv H' a (C i) [(fld, v)] → Q (.ref a) H') :
    ∀ a, H a = none → spInit K [.ref a, v] (upd H a (exo a (C i) none)) (fun u H2 => u = .non ∧ Q (.ref a) H2) (fun _ _ _ => False) := fun a ha =>
  ⟨a, C i, v, rfl, T.oe i hi, T.no i hi, upd_same, fun dx hdx ne => ⟨rfl, k a _ ha (fun b o e => by
    have nb := ne_of_none e ha
    have hd : H dx = none := by
      rw [upd_ne ne] at hdx
      exact hdx
    rw [upd_ne nb, upd_ne (ne_of_none e hd), upd_ne nb]
    exact e) ⟨dx, upd_same, by rw [upd_ne ne, upd_same]⟩⟩⟩
theorem scMade : FnScope ["_law_nth", "_law_name", "_law_way"] ["_law_nth", "_law_name", "_law_way"] (defScope sMade) := ⟨rfl, rfl, rfl, by decide +kernel, rfl, by decide +kernel, by decide +kernel⟩
theorem ofV {n : Nat} {m : Int} : V.int (n : Int) = V.int m ↔ (n : Int) = m := ⟨V.int.inj, congrArg V.int⟩
theorem pr_made {fd : FuncData} (D : Df K mg "_law_made" sMade ["_law_nth", "_law_name", "_law_way"]) (F : FI K fI fd) (T0 : Cls9 K mg C fI) : Pr P w K mg base 3 "_law_made" ["_law_nth", "_law_name", "_law_way"] (spMade C) := by
  refine D.pr scMade (fun vs H Q E h => ?_) (fun f cdv A outer s H vs Q E hr h => ?_)
  · obtain ⟨n, wy, v, rfl, _⟩ := h
    rfl
  · obtain ⟨n, wy, v, rfl, hn, k⟩ := h
    have J : ∀ i, _ := fun i => j_of (X := (cxOf CX0 P w K mg base ["_law_nth", "_law_name", "_law_way"] "_law_made" (defScope sMade) f cdv A outer s H E).nox) F T0 i
    refine ⟨_, (pss_cons (ps_if (pt_cmpR op_eq (pv 0) pe_int (nomark _))
        (pss_one (ps_ret (pe_ifExp (pt_cmpR op_eq (pv 2) pe_int (nomark _)) (pe_mkE0 (J 0 (by decide)).2 hr pass0 (by rfl) (T0.g 0 (by decide))) (pe_mkE (J 0 (by decide)).1 hr pass0 (by rfl) (T0.g 0 (by decide)) (pa_cons (pv 1) pa_nil)))))
        pss_nil)
      (pss_cons (ps_if (pt_cmpR op_eq (pv 0) pe_int (nomark _))
        (pss_one (ps_ret (pe_ifExp (pt_cmpR op_eq (pv 2) pe_int (nomark _)) (pe_mkE0 (J 1 (by decide)).2 hr pass0 (by rfl) (T0.g 1 (by decide))) (pe_mkE (J 1 (by decide)).1 hr pass0 (by rfl) (T0.g 1 (by decide)) (pa_cons (pv 1) pa_nil)))))
        pss_nil)
      (pss_cons (ps_if (pt_cmpR op_eq (pv 0) pe_int (nomark _))
        (pss_one (ps_ret (pe_ifExp (pt_cmpR op_eq (pv 2) pe_int (nomark _)) (pe_mkE0 (J 2 (by decide)).2 hr pass0 (by rfl) (T0.g 2 (by decide))) (pe_mkE (J 2 (by decide)).1 hr pass0 (by rfl) (T0.g 2 (by decide)) (pa_cons (pv 1) pa_nil)))))
        pss_nil)
      (pss_cons (ps_if (pt_cmpR op_eq (pv 0) pe_int (nomark _))
        (pss_one (ps_ret (pe_ifExp (pt_cmpR op_eq (pv 2) pe_int (nomark _)) (pe_mkE0 (J 3 (by decide)).2 hr pass0 (by rfl) (T0.g 3 (by decide))) (pe_mkE (J 3 (by decide)).1 hr pass0 (by rfl) (T0.g 3 (by decide)) (pa_cons (pv 1) pa_nil)))))
        pss_nil)
      (pss_cons (ps_if (pt_cmpR op_eq (pv 0) pe_int (nomark _))
        (pss_one (ps_ret (pe_ifExp (pt_cmpR op_eq (pv 2) pe_int (nomark _)) (pe_mkE0 (J 4 (by decide)).2 hr pass0 (by rfl) (T0.g 4 (by decide))) (pe_mkE (J 4 (by decide)).1 hr pass0 (by rfl) (T0.g 4 (by decide)) (pa_cons (pv 1) pa_nil)))))
        pss_nil)
      (pss_cons (ps_if (pt_cmpR op_eq (pv 0) pe_int (nomark _))
        (pss_one (ps_ret (pe_ifExp (pt_cmpR op_eq (pv 2) pe_int (nomark _)) (pe_mkE0 (J 5 (by decide)).2 hr pass0 (by rfl) (T0.g 5 (by decide))) (pe_mkE (J 5 (by decide)).1 hr pass0 (by rfl) (T0.g 5 (by decide)) (pa_cons (pv 1) pa_nil)))))
        pss_nil)
      (pss_cons (ps_if (pt_cmpR op_eq (pv 0) pe_int (nomark _))
        (pss_one (ps_ret (pe_ifExp (pt_cmpR op_eq (pv 2) pe_int (nomark _)) (pe_mkE0 (J 6 (by decide)).2 hr pass0 (by rfl) (T0.g 6 (by decide))) (pe_mkE (J 6 (by decide)).1 hr pass0 (by rfl) (T0.g 6 (by decide)) (pa_cons (pv 1) pa_nil)))))
        pss_nil)
      (pss_cons (ps_if (pt_cmpR op_eq (pv 0) pe_int (nomark _))
        (pss_one (ps_ret (pe_ifExp (pt_cmpR op_eq (pv 2) pe_int (nomark _)) (pe_mkE0 (J 7 (by decide)).2 hr pass0 (by rfl) (T0.g 7 (by decide))) (pe_mkE (J 7 (by decide)).1 hr pass0 (by rfl) (T0.g 7 (by decide)) (pa_cons (pv 1) pa_nil)))))
        pss_nil)
      (pss_one (ps_ret (pe_ifExp (pt_cmpR op_eq (pv 2) pe_int (nomark _)) (pe_mkE0 (J 8 (by decide)).2 hr pass0 (by rfl) (T0.g 8 (by decide))) (pe_mkE (J 8 (by decide)).1 hr pass0 (by rfl) (T0.g 8 (by decide)) (pa_cons (pv 1) pa_nil))))))))))))), ?_⟩
    refine ⟨_, rfl, rfl, _, rfl, ?_⟩
    refine ite2 (fun h => ?_) (fun h0 => ?_)
    · obtain rfl : n = 0 := by
        have := ofV.mp (of_decide_eq_true h)
        omega
      refine ⟨_, rfl, rfl, _, rfl, ?_⟩
      refine ite2 (fun hw => ?_) (fun hw => ?_)
      · have e : wy = 0 := V.int.inj (of_decide_eq_true hw)
        exact ⟨by decide, mk_done T0 (by decide) fun a H' h1 h2 h3 => k a H' h1 h2 (by rw [if_pos e]; exact h3)⟩
      · have e : wy ≠ 0 := fun z => hw (decide_eq_true (congrArg V.int z))
        exact ⟨_, rfl, (by show 1 ≤ 1000; decide), mk_done T0 (by decide) fun a H' h1 h2 h3 => k a H' h1 h2 (by rw [if_neg e]; exact h3)⟩
    refine ⟨_, rfl, rfl, _, rfl, ?_⟩
    refine ite2 (fun h => ?_) (fun h1 => ?_)
    · obtain rfl : n = 1 := by
        have := ofV.mp (of_decide_eq_true h)
        omega
      refine ⟨_, rfl, rfl, _, rfl, ?_⟩
      refine ite2 (fun hw => ?_) (fun hw => ?_)
      · have e : wy = 0 := V.int.inj (of_decide_eq_true hw)
        exact ⟨by decide, mk_done T0 (by decide) fun a H' h1 h2 h3 => k a H' h1 h2 (by rw [if_pos e]; exact h3)⟩
      · have e : wy ≠ 0 := fun z => hw (decide_eq_true (congrArg V.int z))
        exact ⟨_, rfl, (by show 1 ≤ 1000; decide), mk_done T0 (by decide) fun a H' h1 h2 h3 => k a H' h1 h2 (by rw [if_neg e]; exact h3)⟩
    refine ⟨_, rfl, rfl, _, rfl, ?_⟩
    refine ite2 (fun h => ?_) (fun h2 => ?_)
    · obtain rfl : n = 2 := by
        have := ofV.mp (of_decide_eq_true h)
        omega
      refine ⟨_, rfl, rfl, _, rfl, ?_⟩
      refine ite2 (fun hw => ?_) (fun hw => ?_)
      · have e : wy = 0 := V.int.inj (of_decide_eq_true hw)
        exact ⟨by decide, mk_done T0 (by decide) fun a H' h1 h2 h3 => k a H' h1 h2 (by rw [if_pos e]; exact h3)⟩
      · have e : wy ≠ 0 := fun z => hw (decide_eq_true (congrArg V.int z))
        exact ⟨_, rfl, (by show 1 ≤ 1000; decide), mk_done T0 (by decide) fun a H' h1 h2 h3 => k a H' h1 h2 (by rw [if_neg e]; exact h3)⟩
    refine ⟨_, rfl, rfl, _, rfl, ?_⟩
    refine ite2 (fun h => ?_) (fun h3 => ?_)
    · obtain rfl : n = 3 := by
        have := ofV.mp (of_decide_eq_true h)
        omega
      refine ⟨_, rfl, rfl, _, rfl, ?_⟩
      refine ite2 (fun hw => ?_) (fun hw => ?_)
      · have e : wy = 0 := V.int.inj (of_decide_eq_true hw)
        exact ⟨by decide, mk_done T0 (by decide) fun a H' h1 h2 h3 => k a H' h1 h2 (by rw [if_pos e]; exact h3)⟩
      · have e : wy ≠ 0 := fun z => hw (decide_eq_true (congrArg V.int z))
        exact ⟨_, rfl, (by show 1 ≤ 1000; decide), mk_done T0 (by decide) fun a H' h1 h2 h3 => k a H' h1 h2 (by rw [if_neg e]; exact h3)⟩
    refine ⟨_, rfl, rfl, _, rfl, ?_⟩
    refine ite2 (fun h => ?_) (fun h4 => ?_)
    · obtain rfl : n = 4 := by
        have := ofV.mp (of_decide_eq_true h)
        omega
      refine ⟨_, rfl, rfl, _, rfl, ?_⟩
      refine ite2 (fun hw => ?_) (fun hw => ?_)
      · have e : wy = 0 := V.int.inj (of_decide_eq_true hw)
        exact ⟨by decide, mk_done T0 (by decide) fun a H' h1 h2 h3 => k a H' h1 h2 (by rw [if_pos e]; exact h3)⟩
      · have e : wy ≠ 0 := fun z => hw (decide_eq_true (congrArg V.int z))
        exact ⟨_, rfl, (by show 1 ≤ 1000; decide), mk_done T0 (by decide) fun a H' h1 h2 h3 => k a H' h1 h2 (by rw [if_neg e]; exact h3)⟩
    refine ⟨_, rfl, rfl, _, rfl, ?_⟩
    refine ite2 (fun h => ?_) (fun h5 => ?_)
    · obtain rfl : n = 5 := by
        have := ofV.mp (of_decide_eq_true h)
        omega
      refine ⟨_, rfl, rfl, _, rfl, ?_⟩
      refine ite2 (fun hw => ?_) (fun hw => ?_)
      · have e : wy = 0 := V.int.inj (of_decide_eq_true hw)
        exact ⟨by decide, mk_done T0 (by decide) fun a H' h1 h2 h3 => k a H' h1 h2 (by rw [if_pos e]; exact h3)⟩
      · have e : wy ≠ 0 := fun z => hw (decide_eq_true (congrArg V.int z))
        exact ⟨_, rfl, (by show 1 ≤ 1000; decide), mk_done T0 (by decide) fun a H' h1 h2 h3 => k a H' h1 h2 (by rw [if_neg e]; exact h3)⟩
    refine ⟨_, rfl, rfl, _, rfl, ?_⟩
    refine ite2 (fun h => ?_) (fun h6 => ?_)
    · obtain rfl : n = 6 := by
        have := ofV.mp (of_decide_eq_true h)
        omega
      refine ⟨_, rfl, rfl, _, rfl, ?_⟩
      refine ite2 (fun hw => ?_) (fun hw => ?_)
      · have e : wy = 0 := V.int.inj (of_decide_eq_true hw)
        exact ⟨by decide, mk_done T0 (by decide) fun a H' h1 h2 h3 => k a H' h1 h2 (by rw [if_pos e]; exact h3)⟩
      · have e : wy ≠ 0 := fun z => hw (decide_eq_true (congrArg V.int z))
        exact ⟨_, rfl, (by show 1 ≤ 1000; decide), mk_done T0 (by decide) fun a H' h1 h2 h3 => k a H' h1 h2 (by rw [if_neg e]; exact h3)⟩
    refine ⟨_, rfl, rfl, _, rfl, ?_⟩
    refine ite2 (fun h => ?_) (fun h7 => ?_)
    · obtain rfl : n = 7 := by
        have := ofV.mp (of_decide_eq_true h)
        omega
      refine ⟨_, rfl, rfl, _, rfl, ?_⟩
      refine ite2 (fun hw => ?_) (fun hw => ?_)
      · have e : wy = 0 := V.int.inj (of_decide_eq_true hw)
        exact ⟨by decide, mk_done T0 (by decide) fun a H' h1 h2 h3 => k a H' h1 h2 (by rw [if_pos e]; exact h3)⟩
      · have e : wy ≠ 0 := fun z => hw (decide_eq_true (congrArg V.int z))
        exact ⟨_, rfl, (by show 1 ≤ 1000; decide), mk_done T0 (by decide) fun a H' h1 h2 h3 => k a H' h1 h2 (by rw [if_neg e]; exact h3)⟩
    obtain rfl : n = 8 := by
      have n0 : n ≠ 0 := fun z => h0 (decide_eq_true (ofV.mpr (by omega)))
      have n1 : n ≠ 1 := fun z => h1 (decide_eq_true (ofV.mpr (by omega)))
      have n2 : n ≠ 2 := fun z => h2 (decide_eq_true (ofV.mpr (by omega)))
      have n3 : n ≠ 3 := fun z => h3 (decide_eq_true (ofV.mpr (by omega)))
      have n4 : n ≠ 4 := fun z => h4 (decide_eq_true (ofV.mpr (by omega)))
      have n5 : n ≠ 5 := fun z => h5 (decide_eq_true (ofV.mpr (by omega)))
      have n6 : n ≠ 6 := fun z => h6 (decide_eq_true (ofV.mpr (by omega)))
      have n7 : n ≠ 7 := fun z => h7 (decide_eq_true (ofV.mpr (by omega)))
      omega
    refine ⟨_, rfl, rfl, _, rfl, ?_⟩
    refine ite2 (fun hw => ?_) (fun hw => ?_)
    · have e : wy = 0 := V.int.inj (of_decide_eq_true hw)
      exact ⟨by decide, mk_done T0 (by decide) fun a H' h1 h2 h3 => k a H' h1 h2 (by rw [if_pos e]; exact h3)⟩
    · have e : wy ≠ 0 := fun z => hw (decide_eq_true (congrArg V.int z))
      exact ⟨_, rfl, (by show 1 ≤ 1000; decide), mk_done T0 (by decide) fun a H' h1 h2 h3 => k a H' h1 h2 (by rw [if_neg e]; exact h3)⟩
def spKinds (C : Nat → Addr) : Sp := fun vs H Q _ => ∃ (a : Addr) (n : Nat) (fs : List (Str × V)), vs = [.ref a] ∧ n < 9 ∧ Exv H a (C n) fs ∧
  ∀ (L : Addr) (H' : Hp), H L = none → Same H H' → H' L = some (.lst ([0, 1, 2, 3, 4, 5, 6, 7, 8].map fun j => V.bl (relB n j))) → Q (.ref L) H'
theorem scKinds : FnScope ["_law_e", "_law_found"] ["_law_e"] (defScope sKinds) := ⟨rfl, rfl, rfl, by decide +kernel, rfl, by decide +kernel, by decide +kernel⟩
theorem pr_kinds (D : Df K mg "_law_kinds" sKinds ["_law_e"]) (T : Cls9 K mg C fI) (hisi : mg "isinstance" = none) : Pr P w K mg base 1 "_law_kinds" ["_law_e"] (spKinds C) := by
  refine D.pr scKinds (fun vs H Q E h => ?_) (fun f cdv A outer s H vs Q E hr h => ?_)
  · obtain ⟨a, n, fs, rfl, _⟩ := h
    rfl
  · obtain ⟨a, n, fs, rfl, hn, ex, k⟩ := h
    have nd := scKinds.nd
    refine ⟨_, (pss_cons (ps_asg (pe_lst (pa_cons (pe_callB call_isV (by rfl) hisi (by decide +kernel) (pa_cons (pv 0) (pa_cons (pe_gR rfl (T.g 0 (by decide))) pa_nil))) (pa_cons (pe_callB call_isV (by rfl) hisi (by decide +kernel) (pa_cons (pv 0) (pa_cons (pe_gR rfl (T.g 1 (by decide))) pa_nil))) (pa_cons (pe_callB call_isV (by rfl) hisi (by decide +kernel) (pa_cons (pv 0) (pa_cons (pe_gR rfl (T.g 2 (by decide))) pa_nil))) pa_nil)))) (pg_name (i := 1) nd rfl (Or.inl rfl)))
      (pss_cons (ps_asg (pe_op op_cat (pv 1) (pe_lst (pa_cons (pe_callB call_isV (by rfl) hisi (by decide +kernel) (pa_cons (pv 0) (pa_cons (pe_gR rfl (T.g 3 (by decide))) pa_nil))) (pa_cons (pe_callB call_isV (by rfl) hisi (by decide +kernel) (pa_cons (pv 0) (pa_cons (pe_gR rfl (T.g 4 (by decide))) pa_nil))) (pa_cons (pe_callB call_isV (by rfl) hisi (by decide +kernel) (pa_cons (pv 0) (pa_cons (pe_gR rfl (T.g 5 (by decide))) pa_nil))) pa_nil))))) (pg_name (i := 1) nd rfl (Or.inl rfl)))
      (pss_cons (ps_asg (pe_op op_cat (pv 1) (pe_lst (pa_cons (pe_callB call_isV (by rfl) hisi (by decide +kernel) (pa_cons (pv 0) (pa_cons (pe_gR rfl (T.g 6 (by decide))) pa_nil))) (pa_cons (pe_callB call_isV (by rfl) hisi (by decide +kernel) (pa_cons (pv 0) (pa_cons (pe_gR rfl (T.g 7 (by decide))) pa_nil))) pa_nil)))) (pg_name (i := 1) nd rfl (Or.inl rfl)))
      (pss_one (ps_ret (pe_op op_cat (pv 1) (pe_lst (pa_cons (pe_callB call_isV (by rfl) hisi (by decide +kernel) (pa_cons (pv 0) (pa_cons (pe_gR rfl (T.g 8 (by decide))) pa_nil))) pa_nil)))))))), ?_⟩
    refine ⟨_, rfl, a, C n, fs, _, _, relB n 0, rfl, T.ec n hn, ex, .own _, T.kit n 0 hn (by decide), _, rfl, a, C n, fs, _, _, relB n 1, rfl, T.ec n hn, ex, .own _, T.kit n 1 hn (by decide), _, rfl, a, C n, fs, _, _, relB n 2, rfl, T.ec n hn, ex, .own _, T.kit n 2 hn (by decide), (by show 3 ≤ sizeLine; decide), fun l1 h1 => ?_⟩
    have s1 : Same H (upd H l1 (.lst ([0, 1, 2].map fun j => V.bl (relB n j)))) := same_new h1
    have x1 := ex.same s1
    refine ⟨_, rfl, _, rfl, a, C n, fs, _, _, relB n 3, rfl, T.ec n hn, x1, .own _, T.kit n 3 hn (by decide), _, rfl, a, C n, fs, _, _, relB n 4, rfl, T.ec n hn, x1, .own _, T.kit n 4 hn (by decide), _, rfl, a, C n, fs, _, _, relB n 5, rfl, T.ec n hn, x1, .own _, T.kit n 5 hn (by decide), (by show 3 ≤ sizeLine; decide), fun l2 h2 => ?_⟩
    have s2 := same_new (o := .lst ([3, 4, 5].map fun j => V.bl (relB n j))) h2
    have e1 := s2 _ _ (upd_same (H := H) (a := l1) (o := .lst ([0, 1, 2].map fun j => V.bl (relB n j))))
    refine ⟨_, _, _, _, rfl, rfl, e1, upd_same, (by show 6 ≤ sizeLine; decide), fun l3 h3 => ?_⟩
    have s3 := same_new (o := .lst ([0, 1, 2, 3, 4, 5].map fun j => V.bl (relB n j))) h3
    have x3 := (x1.same s2).same s3
    refine ⟨_, rfl, _, rfl, a, C n, fs, _, _, relB n 6, rfl, T.ec n hn, x3, .own _, T.kit n 6 hn (by decide), _, rfl, a, C n, fs, _, _, relB n 7, rfl, T.ec n hn, x3, .own _, T.kit n 7 hn (by decide), (by show 2 ≤ sizeLine; decide), fun l4 h4 => ?_⟩
    have s4 := same_new (o := .lst ([6, 7].map fun j => V.bl (relB n j))) h4
    have e3 := s4 _ _ (upd_same (H := upd (upd H l1 (.lst ([0, 1, 2].map fun j => V.bl (relB n j)))) l2 (.lst ([3, 4, 5].map fun j => V.bl (relB n j)))) (a := l3) (o := .lst ([0, 1, 2, 3, 4, 5].map fun j => V.bl (relB n j))))
    refine ⟨_, _, _, _, rfl, rfl, e3, upd_same, (by show 8 ≤ sizeLine; decide), fun l5 h5 => ?_⟩
    have s5 := same_new (o := .lst ([0, 1, 2, 3, 4, 5, 6, 7].map fun j => V.bl (relB n j))) h5
    have x5 := (x3.same s4).same s5
    refine ⟨_, rfl, _, rfl, a, C n, fs, _, _, relB n 8, rfl, T.ec n hn, x5, .own _, T.kit n 8 hn (by decide), (by show 1 ≤ sizeLine; decide), fun l6 h6 => ?_⟩
    have s6 := same_new (o := .lst ([8].map fun j => V.bl (relB n j))) h6
    refine ⟨_, _, _, _, rfl, rfl, s6 _ _ upd_same, upd_same, (by show 9 ≤ sizeLine; decide), fun L hL => ?_⟩
    have sL := same_new (o := .lst ([0, 1, 2, 3, 4, 5, 6, 7, 8].map fun j => V.bl (relB n j))) hL
    have all : Same H _ := fun b o e => sL _ _ (s6 _ _ (s5 _ _ (s4 _ _ (s3 _ _ (s2 _ _ (s1 _ _ e))))))
    refine k L _ ?_ all upd_same
    cases e : H L with
    | none => rfl
    | some o =>
      have z := s6 _ _ (s5 _ _ (s4 _ _ (s3 _ _ (s2 _ _ (s1 _ _ e)))))
      exact absurd (z.symm.trans hL) (by intro q; cases q)
/-! raised and caught -/
def PrX (P : Program) (w : World) (K : PySem.W.Frag) (mg : Str → Option Value) (base : Heap) (k : Nat) (x : Str) (ps : List Str) (sp : Sp) : Prop :=
  ∃ f fd, FnOk P w K mg base (L2.CX P w) k f fd ps sp ∧ mg x = some (.ref f) ∧ PySem.W.keepIn K (.ref f) = true ∧ Binds K fd ps []
theorem pe_callPX {X : Cx} {W : WX} {k : Nat} {x : Str} {ps : List Str} {sp : Sp} {e : Expr} {es : List Expr} {t : TA} {p pos : Pos}
    (h : PrX X.prog X.w X.K X.mg X.base k x ps sp) (hr : Room k X.A) (hg : Gl X x) (tk : Takes X W) (ha : PA X (e :: es) t)
    (hdb : (x == ("__debug__" : Str)) = false := by decide) (he : starEach (e :: es) X.env = (false, eval e X.env) :: starEach es X.env := by rfl) (hpl : (backTo pos (starEach es X.env)).any (·.1) = false := by rfl) :
    PE X (.Call (.Name x p) (e :: es) [] pos) (tCallS sp (WE W) t) := by
  obtain ⟨f, fd, F, hm, hk, hb⟩ := h
  exact pe_callS F hr hg hm hk hb (fun σ => passAt tk σ) ha hdb he hpl
def spRaised (C : Nat → Addr) : Sp := fun vs H _ E => ∃ n : Nat, vs = [.int n] ∧ n < 9 ∧ ∀ (d : Addr) (H' : Hp), H d = none → Same H H' → H' d = some (.xd [(fld, .str "x")]) → E (.ref (C n)) (some d) H'
theorem scRaised : FnScope ["_law_nth"] ["_law_nth"] (defScope sRaised) := ⟨rfl, rfl, rfl, by decide +kernel, rfl, by decide +kernel, by decide +kernel⟩
theorem rs_done {H : Hp} {v : V} {Q : XK} {i : Nat} (T : Cls9 K mg C fI) (hi : i < 9) (k : ∀ (d : Addr) (H' : Hp), H d = none → Same H H' → H' d = some (.xd [(fld, v)]) → Q (.ref (C i)) (some d) H') :
    ∀ a, H a = none → spInit K [.ref a, v] (upd H a (exo a (C i) none)) (fun u H2 => u = .non ∧ ∃ (d : Addr) (fs : List (Str × V)), H2 a = some (exo a (C i) (some d)) ∧ H2 d = some (exd d fs) ∧ H d = none ∧ Q (.ref (C i)) (some d) (upd (del H2 a) d (.xd fs))) (fun _ _ _ => False) := fun a ha => by
  refine ⟨a, C i, v, rfl, T.oe i hi, T.no i hi, upd_same, fun dx hdx ne => ⟨rfl, dx, [(fld, v)], upd_same, by rw [upd_ne ne, upd_same], ?_, ?_⟩⟩
  · rw [upd_ne ne] at hdx
    exact hdx
  · have hd : H dx = none := by
      rw [upd_ne ne] at hdx
      exact hdx
    refine k dx _ hd (fun b o e => ?_) upd_same
    have nb := ne_of_none e ha
    have nd := ne_of_none e hd
    rw [upd_ne nd, del_ne nb, upd_ne nb, upd_ne nd, upd_ne nb]
    exact e
theorem pr_raised {fd : FuncData} (D : Df K mg "_law_raised" sRaised ["_law_nth"]) (F : FI K fI fd) (T0 : Cls9 K mg C fI) : PrX P w K mg base 3 "_law_raised" ["_law_nth"] (spRaised C) := by
  obtain ⟨f, fd', F', b, g⟩ := D
  refine ⟨f, fd', F'.okX scRaised (fun vs H Q E h => ?_) (fun cdv A outer s H vs Q E hr h => ?_), g, F'.kp, b⟩
  · obtain ⟨n, rfl, _⟩ := h
    rfl
  · obtain ⟨n, rfl, hn, k⟩ := h
    have J : ∀ i, _ := fun i => j_of (X := cxOf (L2.CX P w) P w K mg base ["_law_nth"] "_law_raised" (defScope sRaised) f cdv A outer s H E) F T0 i
    refine ⟨_, (pss_cons (ps_if (pt_cmpR op_eq (pv 0) pe_int (nomark _))
        (pss_one (ps_raise rfl (takes_of rfl rfl rfl rfl) (pmk_E (J 0 (by decide)).1 hr pass0 (by rfl) (T0.g 0 (by decide)) (pa_cons pe_str pa_nil))))
        pss_nil)
      (pss_cons (ps_if (pt_cmpR op_eq (pv 0) pe_int (nomark _))
        (pss_one (ps_raise rfl (takes_of rfl rfl rfl rfl) (pmk_E (J 1 (by decide)).1 hr pass0 (by rfl) (T0.g 1 (by decide)) (pa_cons pe_str pa_nil))))
        pss_nil)
      (pss_cons (ps_if (pt_cmpR op_eq (pv 0) pe_int (nomark _))
        (pss_one (ps_raise rfl (takes_of rfl rfl rfl rfl) (pmk_E (J 2 (by decide)).1 hr pass0 (by rfl) (T0.g 2 (by decide)) (pa_cons pe_str pa_nil))))
        pss_nil)
      (pss_cons (ps_if (pt_cmpR op_eq (pv 0) pe_int (nomark _))
        (pss_one (ps_raise rfl (takes_of rfl rfl rfl rfl) (pmk_E (J 3 (by decide)).1 hr pass0 (by rfl) (T0.g 3 (by decide)) (pa_cons pe_str pa_nil))))
        pss_nil)
      (pss_cons (ps_if (pt_cmpR op_eq (pv 0) pe_int (nomark _))
        (pss_one (ps_raise rfl (takes_of rfl rfl rfl rfl) (pmk_E (J 4 (by decide)).1 hr pass0 (by rfl) (T0.g 4 (by decide)) (pa_cons pe_str pa_nil))))
        pss_nil)
      (pss_cons (ps_if (pt_cmpR op_eq (pv 0) pe_int (nomark _))
        (pss_one (ps_raise rfl (takes_of rfl rfl rfl rfl) (pmk_E (J 5 (by decide)).1 hr pass0 (by rfl) (T0.g 5 (by decide)) (pa_cons pe_str pa_nil))))
        pss_nil)
      (pss_cons (ps_if (pt_cmpR op_eq (pv 0) pe_int (nomark _))
        (pss_one (ps_raise rfl (takes_of rfl rfl rfl rfl) (pmk_E (J 6 (by decide)).1 hr pass0 (by rfl) (T0.g 6 (by decide)) (pa_cons pe_str pa_nil))))
        pss_nil)
      (pss_cons (ps_if (pt_cmpR op_eq (pv 0) pe_int (nomark _))
        (pss_one (ps_raise rfl (takes_of rfl rfl rfl rfl) (pmk_E (J 7 (by decide)).1 hr pass0 (by rfl) (T0.g 7 (by decide)) (pa_cons pe_str pa_nil))))
        pss_nil)
      (pss_one (ps_raise rfl (takes_of rfl rfl rfl rfl) (pmk_E (J 8 (by decide)).1 hr pass0 (by rfl) (T0.g 8 (by decide)) (pa_cons pe_str pa_nil)))))))))))), ?_⟩
    refine ⟨_, rfl, rfl, _, rfl, ?_⟩
    refine ite2 (fun h => ?_) (fun h0 => ?_)
    · obtain rfl : n = 0 := by
        have := ofV.mp (of_decide_eq_true h)
        omega
      exact ⟨(by show 1 ≤ 1000; decide), rs_done T0 (by decide) k⟩
    refine ⟨_, rfl, rfl, _, rfl, ?_⟩
    refine ite2 (fun h => ?_) (fun h1 => ?_)
    · obtain rfl : n = 1 := by
        have := ofV.mp (of_decide_eq_true h)
        omega
      exact ⟨(by show 1 ≤ 1000; decide), rs_done T0 (by decide) k⟩
    refine ⟨_, rfl, rfl, _, rfl, ?_⟩
    refine ite2 (fun h => ?_) (fun h2 => ?_)
    · obtain rfl : n = 2 := by
        have := ofV.mp (of_decide_eq_true h)
        omega
      exact ⟨(by show 1 ≤ 1000; decide), rs_done T0 (by decide) k⟩
    refine ⟨_, rfl, rfl, _, rfl, ?_⟩
    refine ite2 (fun h => ?_) (fun h3 => ?_)
    · obtain rfl : n = 3 := by
        have := ofV.mp (of_decide_eq_true h)
        omega
      exact ⟨(by show 1 ≤ 1000; decide), rs_done T0 (by decide) k⟩
    refine ⟨_, rfl, rfl, _, rfl, ?_⟩
    refine ite2 (fun h => ?_) (fun h4 => ?_)
    · obtain rfl : n = 4 := by
        have := ofV.mp (of_decide_eq_true h)
        omega
      exact ⟨(by show 1 ≤ 1000; decide), rs_done T0 (by decide) k⟩
    refine ⟨_, rfl, rfl, _, rfl, ?_⟩
    refine ite2 (fun h => ?_) (fun h5 => ?_)
    · obtain rfl : n = 5 := by
        have := ofV.mp (of_decide_eq_true h)
        omega
      exact ⟨(by show 1 ≤ 1000; decide), rs_done T0 (by decide) k⟩
    refine ⟨_, rfl, rfl, _, rfl, ?_⟩
    refine ite2 (fun h => ?_) (fun h6 => ?_)
    · obtain rfl : n = 6 := by
        have := ofV.mp (of_decide_eq_true h)
        omega
      exact ⟨(by show 1 ≤ 1000; decide), rs_done T0 (by decide) k⟩
    refine ⟨_, rfl, rfl, _, rfl, ?_⟩
    refine ite2 (fun h => ?_) (fun h7 => ?_)
    · obtain rfl : n = 7 := by
        have := ofV.mp (of_decide_eq_true h)
        omega
      exact ⟨(by show 1 ≤ 1000; decide), rs_done T0 (by decide) k⟩
    obtain rfl : n = 8 := by
      have n0 : n ≠ 0 := fun z => h0 (decide_eq_true (ofV.mpr (by omega)))
      have n1 : n ≠ 1 := fun z => h1 (decide_eq_true (ofV.mpr (by omega)))
      have n2 : n ≠ 2 := fun z => h2 (decide_eq_true (ofV.mpr (by omega)))
      have n3 : n ≠ 3 := fun z => h3 (decide_eq_true (ofV.mpr (by omega)))
      have n4 : n ≠ 4 := fun z => h4 (decide_eq_true (ofV.mpr (by omega)))
      have n5 : n ≠ 5 := fun z => h5 (decide_eq_true (ofV.mpr (by omega)))
      have n6 : n ≠ 6 := fun z => h6 (decide_eq_true (ofV.mpr (by omega)))
      have n7 : n ≠ 7 := fun z => h7 (decide_eq_true (ofV.mpr (by omega)))
      omega
    exact ⟨(by show 1 ≤ 1000; decide), rs_done T0 (by decide) k⟩
def spCaught : Sp := fun vs H Q _ => ∃ n : Nat, vs = [.int n] ∧ n < 9 ∧ ∀ H', Same H H' → Q (.str (if 1 < n then "database" else "error")) H'
theorem scCaught : FnScope ["_law_nth", "_law_found", "_law_e"] ["_law_nth"] (defScope sCaught) := ⟨rfl, rfl, rfl, by decide +kernel, rfl, by decide +kernel, by decide +kernel⟩
theorem pr_caught (D : Df K mg "_law_caught" sCaught ["_law_nth"]) (T : Cls9 K mg C fI) (PR : PrX P w K mg base 3 "_law_raised" ["_law_nth"] (spRaised C)) : Pr P w K mg base 4 "_law_caught" ["_law_nth"] spCaught := by
  refine D.pr scCaught (fun vs H Q E h => ?_) (fun f cdv A outer s H vs Q E hr h => ?_)
  · obtain ⟨n, rfl, _⟩ := h
    rfl
  · obtain ⟨n, rfl, hn, k⟩ := h
    have nd := scCaught.nd
    refine ⟨_, (pss_cons (ps_asg pe_str (pg_name (i := 1) nd rfl (Or.inl rfl)))
      (pss_cons (ps_try_manyA rfl rfl nd takes0 (fun W pn xe tk _ => pss_one (ps_expr (pe_callPX PR hr (by rfl) tk (pa_cons (pv 0) pa_nil))))
        (.cons (i := 2) ⟨rfl, by decide, .inl (T.g 2 (by decide))⟩ rfl rfl (fun a oe cls d pn hz hf => pss_one (ps_asg pe_str (pg_name (i := 1) nd rfl (Or.inl rfl))))
        (.cons (i := 2) ⟨rfl, by decide, .inl (T.g 0 (by decide))⟩ rfl rfl (fun a oe cls d pn hz hf => pss_one (ps_asg pe_str (pg_name (i := 1) nd rfl (Or.inl rfl)))) .nil)))
      (pss_one (ps_ret (pv 1))))), ?_⟩
    refine ⟨_, rfl, n, rfl, hn, fun d H' hd sm hx => ?_⟩
    refine ⟨_, T.exm n 2 hn (.inr rfl), fun h2 a ha => ?_, fun h2 => ?_⟩
    · have h1 : 1 < n := by
        unfold relB at h2
        simp at h2
        omega
      have := k H' sm
      rw [if_pos h1] at this
      exact ⟨_, rfl, this⟩
    · have h1 : ¬ 1 < n := by
        unfold relB at h2
        simp at h2
        omega
      refine ⟨_, T.exm n 0 hn (.inl rfl), fun h0 a ha => ?_, fun h0 => ?_⟩
      · have := k H' sm
        rw [if_neg h1] at this
        exact ⟨_, rfl, this⟩
      · unfold relB at h0
        simp at h0
end
end C00

set_option Elab.async false
set_option maxRecDepth 100000
set_option maxHeartbeats 4000000
set_option linter.all false
namespace C00
open PySem L2 My
abbrev sLaw : Stmt := top 20
structure Tl (mg : Str → Option Value) : Prop where
  range : mg "range" = none
  isinstance : mg "isinstance" = none
  ValueError : mg "ValueError" = none
  KeyError : mg "KeyError" = none
  LookupError : mg "LookupError" = none
  ArithmeticError : mg "ArithmeticError" = none
theorem relB_of (n j : Nat) : relB n j = (if decide (V.int (j : Int) = V.int (n : Int)) = true then true else if decide (V.int (j : Int) = V.int 0) = true then true else if decide (V.int (j : Int) = V.int 2) = true then decide ((2 : Int) < (n : Int)) else false) := by
  have h1 : (V.int (j : Int) = V.int (n : Int)) ↔ j = n := by rw [ofV]; omega
  have h2 : (V.int (j : Int) = V.int 0) ↔ j = 0 := by rw [ofV]; omega
  have h3 : (V.int (j : Int) = V.int 2) ↔ j = 2 := by rw [ofV]; omega
  have h4 : ((2 : Int) < (n : Int)) ↔ 2 < n := by omega
  unfold relB
  rw [Bool.eq_iff_iff]
  simp only [decide_eq_true_iff, h1, h2, h3, h4, Bool.or_eq_true, Bool.and_eq_true, beq_iff_eq]
  by_cases c1 : j = n <;> by_cases c2 : j = 0 <;> by_cases c3 : j = 2 <;> simp [c1, c2, c3]
section
variable {P : Program} {w : World} {K : PySem.W.Frag} {mg : Str → Option Value} {base : Heap} {C : Nat → Addr} {fI : Addr}
def spLaw (K : PySem.W.Frag) : Sp := fun vs H Q _ => ∃ (a : Addr) (ns : List Int), vs = [.ref a] ∧ SqL K H a (ns.map V.int) ∧ ns.length ≤ 63 ∧ ∀ H', Q (.bl true) H'
abbrev nLaw : List Str := ["_law_script", "_law_state", "_law_turn", "_law_nth", "_law_way", "_law_name", "_law_e", "_law_due", "_law_place"]
theorem scLaw : FnScope nLaw ["_law_script"] (defScope sLaw) := ⟨rfl, rfl, rfl, by decide +kernel, rfl, by decide +kernel, by decide +kernel⟩
theorem Drw.same {H H' : Hp} {st c : Addr} {ns : List Int} (h : Drw H st c ns) (s : Same H H') : Drw H' st c ns := by
  obtain ⟨q1, q2, q3, q4, q5, q6⟩ := h
  exact ⟨s _ _ q1, q2, q3, q4, q5, s _ _ q6⟩
theorem ok_law {f : Addr} {fd : FuncData} (F : Fun K "law" "law" sLaw f fd) (T : Tl mg) (T9 : Cls9 K mg C fI) (PF : Pr P w K mg base 1 "_law_fresh" ["_law_script"] (spFresh K)) (PT : Pr P w K mg base 2 "_law_take" ["_law_state", "_law_many"] spTake)
    (PO : Pr P w K mg base 3 "_law_one" ["_law_state", "_law_things"] (spOne K)) (PS : Pr P w K mg base 2 "_law_same" ["_law_found", "_law_due"] (spSame 1)) (PM : Pr P w K mg base 3 "_law_made" ["_law_nth", "_law_name", "_law_way"] (spMade C))
    (PK : Pr P w K mg base 1 "_law_kinds" ["_law_e"] (spKinds C)) (PC : Pr P w K mg base 4 "_law_caught" ["_law_nth"] spCaught) : FnOk P w K mg base CX0 5 f fd ["_law_script"] (spLaw K) := by
  refine F.ok scLaw (fun vs H Q E h => ?_) (fun cdv A outer s H vs Q E hr h => ?_)
  · obtain ⟨a, ns, rfl, _⟩ := h
    rfl
  · obtain ⟨a, ns, rfl, hS, hlen, k⟩ := h
    have nd := scLaw.nd
    have hr1 := hr.mono (show 1 ≤ 4 by decide)
    have hr2 := hr.mono (show 2 ≤ 4 by decide)
    have hr3 := hr.mono (show 3 ≤ 4 by decide)
    refine ⟨_, (pss_cons (ps_asg (pe_callP PF hr1 (by rfl) (pa_cons (pv 0) pa_nil)) (pg_name (i := 1) nd rfl (Or.inl rfl)))
      (pss_cons (ps_for PassesOwn.never rfl (pi_range1 rfl T.range (pa_cons pe_int pa_nil)) (pg_name (i := 2) nd rfl (Or.inl rfl))
        (Evl.pss_cut (ps_asg (pe_tup (pa_cons (pe_callP PT hr2 (by rfl) (pa_cons (pv 1) (pa_cons pe_int pa_nil))) (pa_cons (pe_callP PT hr2 (by rfl) (pa_cons (pv 1) (pa_cons pe_int pa_nil))) pa_nil))) (pg_tup rfl (pgs_cons (pg_name (i := 3) nd rfl (Or.inr rfl)) (pgs_cons (pg_name (i := 4) nd rfl (Or.inl rfl)) pgs_nil))))
        (pss_cons (ps_asg (pe_callP PO hr3 (by rfl) (pa_cons (pv 1) (pa_cons (pe_tup (pa_cons pe_str (pa_cons pe_str (pa_cons pe_str (pa_cons pe_non (pa_cons pe_int (pa_cons pe_str pa_nil))))))) pa_nil))) (pg_name (i := 5) nd rfl (Or.inl rfl)))
        (pss_cons (ps_asg (pe_callP PM hr3 (by rfl) (pa_cons (pv 3) (pa_cons (pv 5) (pa_cons (pv 4) pa_nil)))) (pg_name (i := 6) nd rfl (Or.inl rfl)))
        (pss_cons (ps_setLc (i := 7) (own := [("_law_place", 8)]) (g := gName 8) (tt := tYes) (by rfl) nd rfl rfl (sw_true rfl rfl rfl (by decide +kernel)) (pi_range1 rfl T.range (pa_cons pe_int pa_nil))
  (blkOk_by (own := [("_law_place", 8)]) (N := nLaw) (sc := defScope sLaw) (by decide +kernel))
  (fun _ _ _ _ _ => pg_name (i := 8) nd rfl (Or.inl rfl)) (fun _ _ _ _ _ => pts_nil)
  (fun _ _ _ _ _ => (pe_or (pe_cmpR op_eq (pv 8) (pv 3) (nomark _)) (pe_or (pe_cmpR op_eq (pv 8) pe_int (nomark _)) (pe_one (pe_and (pe_cmpR op_eq (pv 8) pe_int (nomark _)) (pe_one (pe_cmpR op_gt (pv 3) pe_int (nomark _)))))))))
        (pss_cons (ps_if (PW.pt (pw_or (pt_not (pt_val (pe_callP PS hr2 (by rfl) (pa_cons (pe_callP PK hr1 (by rfl) (pa_cons (pv 6) pa_nil)) (pa_cons (pv 7) pa_nil))))) (pw_or1 (pt_val (pe_callB call_isVT (by rfl) T.isinstance (by decide +kernel) (pa_cons (pv 6) (pa_cons (pe_tup (pa_cons (pe_bltn (v := .ty "ValueError") (by rfl) T.ValueError (by decide +kernel) rfl) (pa_cons (pe_bltn (v := .ty "KeyError") (by rfl) T.KeyError (by decide +kernel) rfl) (pa_cons (pe_bltn (v := .ty "LookupError") (by rfl) T.LookupError (by decide +kernel) rfl) (pa_cons (pe_bltn (v := .ty "ArithmeticError") (by rfl) T.ArithmeticError (by decide +kernel) rfl) pa_nil))))) pa_nil)))))))
          (pss_one (ps_ret pe_bl))
          pss_nil)
        (Evl.pss_cut (ps_if (pt_not (pt_val (pe_callP PS hr2 (by rfl) (pa_cons (pe_lst (pa_cons (pe_xv (pv 6)) pa_nil)) (pa_cons (pe_lst (pa_cons (pe_ifExp (pt_cmpR op_eq (pv 4) pe_int (nomark _)) pe_non (pv 5)) pa_nil)) pa_nil)))))
          (pss_one (ps_ret pe_bl))
          pss_nil)
        (pss_one (ps_if (pt_cmpR op_ne (pe_callP PC hr (by rfl) (pa_cons (pv 3) pa_nil)) (pe_ifExp (pt_cmpR op_gt (pv 3) pe_int (nomark _)) pe_str pe_str) (nomark _))
          (pss_one (ps_ret pe_bl))
          pss_nil)))))))))
      (pss_one (ps_ret pe_bl)))), ?_⟩
    refine ⟨_, rfl, a, ns, rfl, hS, hlen, fun st c H1 nst nc dr sm => ?_⟩
    refine ⟨_, rfl, by decide, by decide, ?_⟩
    refine for_range (fun i σ H2 => (∃ o2 o3 o4 o5 o6 o7, σ = [some (.ref a), some (.ref st), o2, o3, o4, o5, o6, o7, none]) ∧ Drw H2 st c ns) ⟨⟨_, _, _, _, _, _, rfl⟩, dr⟩ ?_ ?_
    · rintro i σ H2 hi ⟨⟨o2, o3, o4, o5, o6, o7, rfl⟩, d2⟩
      refine ⟨fun σ' H3 => ∃ (n : Nat) (wy : Int) (o2 o5 o6 o7 : Option V), n < 9 ∧ σ' = [some (.ref a), some (.ref st), o2, some (.int n), some (.int wy), o5, o6, o7, none] ∧ Drw H3 st c ns, ?_, ?_⟩
      · refine ⟨_, rfl, st, c, ns, 9, rfl, d2, hlen, by decide, by decide, fun d H3 d0 d1 d3 b3 => ?_⟩
        refine ⟨_, rfl, st, c, ns, 2, rfl, d3, hlen, by decide, by decide, fun wy H4 w0 w1 d4 b4 => ?_⟩
        obtain ⟨n, rfl⟩ := Int.eq_ofNat_of_zero_le d0
        refine ⟨(by show 2 ≤ sizeLine; decide), fun p hp => ⟨_, _, rfl, SqT.of upd_same, rfl, _, _, rfl, _, _, rfl, rfl, ?_⟩⟩
        exact ⟨n, wy, _, _, _, _, by omega, rfl, d4.new hp⟩
      · rintro σ' H3 ⟨n, wy, o2, o5, o6, o7, hn, rfl, d3⟩
        refine ⟨_, rfl, (by show 6 ≤ sizeLine; decide), fun tp htp => ?_⟩
        have hst3 := d3.2.choose_spec.choose_spec.choose_spec.2
        have ntp : tp ≠ st := fun q => by
          rw [q, hst3] at htp
          cases htp
        refine ⟨st, c, tp, ns, _, rfl, d3.new htp, hlen, ntp, .inr (SqT.of upd_same), (by show 0 < 6; decide), (by show 6 ≤ 10000; decide), fun x H4 hx d4 b4 => ?_⟩
        obtain ⟨dx, hdx, hlx⟩ : ∃ d : PyData, (∀ H, At st H x d) ∧ Lev 0 d := by
          simp only [List.mem_cons, List.not_mem_nil, or_false] at hx
          rcases hx with rfl | rfl | rfl | rfl | rfl | rfl
          · exact ⟨_, fun _ => .str _, .str _ _⟩
          · exact ⟨_, fun _ => .str _, .str _ _⟩
          · exact ⟨_, fun _ => .str _, .str _ _⟩
          · exact ⟨_, fun _ => .non, .non _⟩
          · exact ⟨_, fun _ => .int _, .int _ _⟩
          · exact ⟨_, fun _ => .str _, .str _ _⟩
        refine ⟨_, rfl, _, rfl, _, rfl, n, wy, x, rfl, hn, fun e H5 he s5 ex => ?_⟩
        have d5 := Drw.same d4 s5
        refine ⟨_, rfl, by decide, by decide, fun Dl hD => ?_⟩
        refine lc_range (fun j H6 => Same H5 H6 ∧ H6 Dl = some (.lst ((List.range j).map fun i => V.bl (relB n i)))) ?_ ?_ ?_
        · exact ⟨same_new hD, upd_same⟩
        · rintro j H6 hj ⟨s6, hl⟩
          refine ⟨rfl, ?_⟩
          have key : ∀ b : Bool, b = relB n j → ∃ acc, H6 Dl = some (.lst acc) ∧ acc.length < sizeLine ∧ (Same H5 (upd H6 Dl (.lst (acc ++ [.bl b]))) ∧ (upd H6 Dl (.lst (acc ++ [.bl b]))) Dl = some (.lst ((List.range (j + 1)).map fun i => V.bl (relB n i)))) := fun b hb => by
            refine ⟨_, hl, ?_, fun q o e => ?_, ?_⟩
            · rw [List.length_map, List.length_range]
              exact small6 (by have : j < 9 := hj; omega)
            · rw [upd_ne (ne_of_none e hD)]
              exact s6 _ _ e
            · rw [upd_same, List.range_succ, List.map_append, hb]
              rfl
          have e0 : (0 : Int) + (j : Nat) = (j : Int) := by omega
          rw [relB_of] at key
          refine ⟨_, rfl, _, rfl, rfl, _, rfl, ?_⟩
          rw [e0]
          refine ite2 (fun h1 => ?_) (fun h1 => ?_)
          · rw [if_pos h1] at key
            exact key _ rfl
          · rw [if_neg h1] at key
            refine ⟨_, rfl, rfl, _, rfl, ?_⟩
            refine ite2 (fun h2 => ?_) (fun h2 => ?_)
            · rw [if_pos h2] at key
              exact key _ rfl
            · rw [if_neg h2] at key
              refine ⟨_, rfl, rfl, _, rfl, ?_⟩
              refine ite2 (fun h3 => ?_) (fun h3 => ?_)
              · rw [if_pos h3] at key
                exact ⟨_, rfl, _, _, rfl, rfl, key _ rfl⟩
              · rw [if_neg h3] at key
                exact key _ rfl
        · rintro H6 ⟨s6, hl⟩
          have d6 := Drw.same d5 s6
          have ex6 := ex.same s6
          have hst6 := d6.2.choose_spec.choose_spec.choose_spec.2
          have nDl : Dl ≠ st := fun q => by
            have := d5.2.choose_spec.choose_spec.choose_spec.2
            rw [q, this] at hD
            cases hD
          refine ⟨_, rfl, e, n, _, rfl, hn, ex6, fun Lk H7 hL s7 hk => ?_⟩
          have nLk : Lk ≠ st := fun q => by
            rw [q, hst6] at hL
            cases hL
          have d7 := Drw.same d6 s7
          refine ⟨_, rfl, st, .ref Lk, .ref Dl, .list (([0, 1, 2, 3, 4, 5, 6, 7, 8].map (relB n)).map PyData.bool), _, rfl, s7 _ _ hst6, ?_, ?_, ?_, fun H8 s8 => ?_⟩
          · exact .lst nLk (by rw [hk, List.map_map]; rfl) (AtAll.bools _)
          · exact .lst nDl (by rw [s7 _ _ hl, List.map_map]; rfl) (AtAll.bools _)
          · refine .lst (by show 9 ≤ 1000000; decide) fun y hy => ?_
            obtain ⟨b, _, rfl⟩ := List.mem_map.mp hy
            exact .bl _ _
          refine ⟨_, rfl, iteF ?_⟩
          refine ⟨_, rfl, (by show 4 ≤ sizeLine; decide), fun t4 ht4 => ?_⟩
          have ex8 := ((ex6.same s7).same s8).same (same_new (o := .tup [.ty "ValueError", .ty "KeyError", .ty "LookupError", .ty "ArithmeticError"]) ht4)
          have d8 := Drw.same (Drw.same d7 s8) (same_new (o := .tup [.ty "ValueError", .ty "KeyError", .ty "LookupError", .ty "ArithmeticError"]) ht4)
          refine ⟨e, C n, t4, _, _, _, false, rfl, T9.ec n hn, ex8, upd_same, cls_all ["ValueError", "KeyError", "LookupError", "ArithmeticError"], T9.kitB n hn, ?_⟩
          refine ⟨_, rfl, iteF ?_⟩
          have ecn := T9.ec n hn
          have lk : ∀ v : V, ([(fld, v)] : List (Str × V)).lookup fld = some v := fun v => by
            rw [lookup_put, if_pos rfl]
          refine ⟨fun σ' H' => σ' = [some (.ref a), some (.ref st), o2, some (.int n), some (.int wy), some x, some (.ref e), some (.ref Dl), none] ∧ Drw H' st c ns, ?_, ?_⟩
          · refine ⟨_, rfl, e, C n, _, _, rfl, ⟨ecn.hg, ecn.hk, ecn.hs, ecn.hd⟩, T9.no n hn, ex8, lk _, (by show 1 ≤ sizeLine; decide), fun l1 hl1 => ?_⟩
            have hst8 := d8.2.choose_spec.choose_spec.choose_spec.2
            have nl1 : l1 ≠ st := fun q => by
              rw [q, hst8] at hl1
              cases hl1
            refine ⟨_, rfl, rfl, _, rfl, ?_⟩
            by_cases hw : wy = 0
            · rw [decide_eq_true (congrArg V.int hw)]
              rw [if_pos hw]
              refine iteT ⟨(by show 1 ≤ sizeLine; decide), fun l2 hl2 => ?_⟩
              have hst9 := same_new (o := .lst [.non]) hl1 _ _ hst8
              have nl2 : l2 ≠ st := fun q => by
                rw [q, hst9] at hl2
                cases hl2
              have n12 : l1 ≠ l2 := fun q => by
                rw [← q, upd_same] at hl2
                cases hl2
              refine ⟨st, .ref l1, .ref l2, .list [.none], _, rfl, same_new hl2 _ _ hst9, .lst nl1 (Eq.trans (upd_ne n12) upd_same) (.cons (.non) .nil), .lst nl2 upd_same (.cons (.non) .nil), .lst (by show 1 ≤ 1000000; decide) (fun y hy => ?_), fun H10 s10 => ?_⟩
              · rw [List.mem_singleton.mp hy]
                exact .non _
              · refine ⟨_, rfl, iteF ?_⟩
                refine ⟨rfl, Drw.same (Drw.same (Drw.same d8 (same_new hl1)) (same_new hl2)) s10⟩
            · rw [decide_eq_false (fun z => hw (V.int.inj z))]
              rw [if_neg hw]
              refine iteF ⟨_, rfl, (by show 1 ≤ sizeLine; decide), fun l2 hl2 => ?_⟩
              have hst9 := same_new (o := .lst [x]) hl1 _ _ hst8
              have nl2 : l2 ≠ st := fun q => by
                rw [q, hst9] at hl2
                cases hl2
              have n12 : l1 ≠ l2 := fun q => by
                rw [← q, upd_same] at hl2
                cases hl2
              refine ⟨st, .ref l1, .ref l2, .list [dx], _, rfl, same_new hl2 _ _ hst9, .lst nl1 (Eq.trans (upd_ne n12) upd_same) (.cons (hdx _) .nil), .lst nl2 upd_same (.cons (hdx _) .nil), .lst (by show 1 ≤ 1000000; decide) (fun y hy => ?_), fun H10 s10 => ?_⟩
              · rw [List.mem_singleton.mp hy]
                exact hlx
              · refine ⟨_, rfl, iteF ?_⟩
                refine ⟨rfl, Drw.same (Drw.same (Drw.same d8 (same_new hl1)) (same_new hl2)) s10⟩
          · rintro σ9 H9 ⟨rfl, d9⟩
            refine ⟨_, rfl, n, rfl, hn, fun H11 s11 => ?_⟩
            refine ⟨_, rfl, _, _, rfl, rfl, _, rfl, ?_⟩
            by_cases h1 : 1 < n
            · rw [decide_eq_true (show (1 : Int) < (n : Int) by omega), if_pos h1]
              refine iteT ⟨rfl, _, rfl, ?_⟩
              rw [decide_eq_true rfl]
              exact iteF ⟨⟨_, _, _, _, _, _, rfl⟩, Drw.same d9 s11⟩
            · rw [decide_eq_false (show ¬ (1 : Int) < (n : Int) by omega), if_neg h1]
              refine iteF ⟨rfl, _, rfl, ?_⟩
              rw [decide_eq_true rfl]
              exact iteF ⟨⟨_, _, _, _, _, _, rfl⟩, Drw.same d9 s11⟩
    · rintro σ H2 ⟨⟨o2, o3, o4, o5, o6, o7, rfl⟩, d2⟩
      exact k H2
end
end C00

set_option Elab.async false
set_option maxRecDepth 100000
set_option maxHeartbeats 4000000
set_option linter.all false
namespace C00
open PySem L2 My
theorem df_mk {K : PySem.W.Frag} {h : Heap} {mg : Str → Option Value} {x : Str} {st : Stmt} {ps : List Str} {f : Addr} {oc : Value} {od an : Option Addr} {osl : Array (Option Value)} {kV doc pm cdv ct : Value} (X : K.In h) (G : h.Ns mainGlobals mg)
    (a : PySem.W.nsIn K mainGlobals x = some (some (.ref f))) (l : K.lookup f = some ⟨oc, od, .func (PySem.W.fnOf x x (defArgs st) (defBody st) (defScope st) .none kV doc pm an cdv ct), osl⟩) (c : PySem.W.codeIn K cdv x = true) (k : PySem.W.keepIn K (.ref f) = true)
    (hb : ∀ (kV doc pm : Value) (an : Option Addr) (cdv ct : Value) (us : List Value), us.length = ps.length → bindArgs (PySem.W.fnOf x x (defArgs st) (defBody st) (defScope st) .none kV doc pm an cdv ct) ⟨us, []⟩ = pure (ps.zip us)) : Df K mg x st ps :=
  ⟨f, _, fun_mk l c k, (fun_mk (st := st) l c k).binds hb, PySem.W.mg_of X G a⟩
/-- what the top says of one class -/
structure One (K : PySem.W.Frag) (C fI : Addr) : Prop where
  oe : OexE K C
  ec : ExcC K C
  no : PySem.W.findIn K (.ref C) fld = some none
  ini : PySem.W.findIn K (.ref C) "__init__" = some (some (.ref fI))
theorem one_mk {K : PySem.W.Frag} {C fI N : Addr} {nm q : Str} {bs bm sub : List Value} {sn : List Str} {ab : Bool} {col : Option Bool} {dd : Option Addr} {k0 k1 k2 k3 k5 : Option Value}
    (l : K.lookup C = some (excClassObj nm q C N bs bm true sn sub ab col dd k0 k1 k2 k3 k5 "Exception.__new__")) (r : PySem.MyX.refsX bm = true) (sa : PySem.W.findIn K (.ref C) "__setattr__" = some (some (.builtin "object.__setattr__")))
    (ex : PySem.W.subIn K (.ref C) (.type "BaseException") = some true) (ty : PySem.W.typeIn K (.ref C) = some (.type "type")) (kc : PySem.W.keepIn K (.ref C) = true)
    (hg : PySem.W.findIn K (.ref C) "__getattribute__" = some (some (.builtin "BaseException.__getattribute__"))) (hk : PySem.W.findIn K (.ref C) "__getattr__" = some none) (hd : PySem.W.hasDictIn K C = true)
    (ha : PySem.W.findIn K (.ref C) "__class__" = some (some (.builtin "object.__class__"))) (hm : PySem.W.mroIn K C (.type "object") = some true)
    (hn : PySem.W.specialIn K (.builtin "object.__class__") "__get__" = some (some (.builtin "getset_descriptor.__get__"))) (ht : PySem.W.takesIn K (.builtin "object.__class__") = some true)
    (no : PySem.W.findIn K (.ref C) fld = some none) (ini : PySem.W.findIn K (.ref C) "__init__" = some (some (.ref fI))) : One K C fI :=
  ⟨⟨⟨nm, q, N, bs, bm, sn, sub, ab, col, dd, k0, k1, k2, k3, k5, l, r⟩, sa, ex, ty, kc⟩, ⟨hg, hk, ex, hd, ha, hn, ht, hm⟩, no, ini⟩
theorem kit_sub {K : PySem.W.Frag} {A C fI : Addr} {b : Bool} (o : One K C fI) (sc : PySem.W.subIn K (.ref C) (.ref C) = some true) (s : PySem.W.subIn K (.ref A) (.ref C) = some b) : PySem.W.kitOne K (.ref A) (.ref C) = some b := by
  unfold PySem.W.kitOne
  by_cases e : A = C
  · subst e
    rw [sc] at s
    cases s
    rw [if_pos (by simp)]
  · rw [if_neg (by simp [e])]
    obtain ⟨cd, hc, _⟩ := PySem.W.any_some o.ec.hd
    show (if ((PySem.W.clsIn K C).isSome && PySem.W.typeIn K (.ref C) == some (.type "type")) = true then _ else _) = some b
    rw [if_pos (by rw [hc, o.oe.tyC]; rfl)]
    exact s
theorem kit_bi {K : PySem.W.Frag} {A : Addr} {T : String} (m : PySem.W.kitMeta T = true) (s : PySem.W.subIn K (.ref A) (.type T) = some false) : PySem.W.kitOne K (.ref A) (.type T) = some false := by
  unfold PySem.W.kitOne
  rw [if_neg (by simp)]
  show (if PySem.W.kitMeta T = true then _ else _) = some false
  rw [if_pos m]
  exact s
theorem kit_bi4 {K : PySem.W.Frag} {A : Addr} (s1 : PySem.W.subIn K (.ref A) (.type "ValueError") = some false) (s2 : PySem.W.subIn K (.ref A) (.type "KeyError") = some false) (s3 : PySem.W.subIn K (.ref A) (.type "LookupError") = some false) (s4 : PySem.W.subIn K (.ref A) (.type "ArithmeticError") = some false) :
    PySem.W.kitAny K (.ref A) (["ValueError", "KeyError", "LookupError", "ArithmeticError"].map Value.type) = some false :=
  kitAny_cons (kit_bi (by decide +kernel) s1) (fun _ => kitAny_cons (kit_bi (by decide +kernel) s2) (fun _ => kitAny_cons (kit_bi (by decide +kernel) s3) (fun _ => kitAny_cons (kit_bi (by decide +kernel) s4) (fun _ => kitAny_nil) (fun z => by cases z)) (fun z => by cases z)) (fun z => by cases z)) (fun z => by cases z)
def nine (c : List Addr) (i : Nat) : Addr := c.getD i 0
theorem all_mk {l : PySem.W.OpenLaw} {w : World} {K : PySem.W.Frag} {h : Heap} {mg : Str → Option Value} {fa : Addr} {f0 : Addr} {oc0 kV0 dc0 pm0 cd0 ct0 : Value} {od0 an0 : Option Addr} {sl0 : Array (Option Value)} {f1 : Addr} {oc1 kV1 dc1 pm1 cd1 ct1 : Value} {od1 an1 : Option Addr} {sl1 : Array (Option Value)} {f2 : Addr} {oc2 kV2 dc2 pm2 cd2 ct2 : Value} {od2 an2 : Option Addr} {sl2 : Array (Option Value)} {f3 : Addr} {oc3 kV3 dc3 pm3 cd3 ct3 : Value} {od3 an3 : Option Addr} {sl3 : Array (Option Value)} {f4 : Addr} {oc4 kV4 dc4 pm4 cd4 ct4 : Value} {od4 an4 : Option Addr} {sl4 : Array (Option Value)} {f5 : Addr} {oc5 kV5 dc5 pm5 cd5 ct5 : Value} {od5 an5 : Option Addr} {sl5 : Array (Option Value)} {f6 : Addr} {oc6 kV6 dc6 pm6 cd6 ct6 : Value} {od6 an6 : Option Addr} {sl6 : Array (Option Value)} {f7 : Addr} {oc7 kV7 dc7 pm7 cd7 ct7 : Value} {od7 an7 : Option Addr} {sl7 : Array (Option Value)} {f8 : Addr} {oc8 kV8 dc8 pm8 cd8 ct8 : Value} {od8 an8 : Option Addr} {sl8 : Array (Option Value)} {f9 : Addr} {oc9 kV9 dc9 pm9 cd9 ct9 : Value} {od9 an9 : Option Addr} {sl9 : Array (Option Value)} {C0 C1 C2 C3 C4 C5 C6 C7 C8 fI TD : Addr} {ocI kVI dcI pmI cdI ctI : Value} {odI anI oD : Option Addr} {slI sD : Array (Option Value)} {nD : Nat} (X : K.In h) (G : h.Ns mainGlobals mg) (hfa : mg "law" = some (.ref fa))
    (a0 : PySem.W.nsIn K mainGlobals "_law_fresh" = some (some (.ref f0))) (l0 : K.lookup f0 = some ⟨oc0, od0, .func (PySem.W.fnOf "_law_fresh" "_law_fresh" (defArgs sFresh) (defBody sFresh) (defScope sFresh) .none kV0 dc0 pm0 an0 cd0 ct0), sl0⟩) (c0 : PySem.W.codeIn K cd0 "_law_fresh" = true) (k0 : PySem.W.keepIn K (.ref f0) = true)
    (a1 : PySem.W.nsIn K mainGlobals "_law_fill" = some (some (.ref f1))) (l1 : K.lookup f1 = some ⟨oc1, od1, .func (PySem.W.fnOf "_law_fill" "_law_fill" (defArgs sFill) (defBody sFill) (defScope sFill) .none kV1 dc1 pm1 an1 cd1 ct1), sl1⟩) (c1 : PySem.W.codeIn K cd1 "_law_fill" = true) (k1 : PySem.W.keepIn K (.ref f1) = true)
    (a2 : PySem.W.nsIn K mainGlobals "_law_take" = some (some (.ref f2))) (l2 : K.lookup f2 = some ⟨oc2, od2, .func (PySem.W.fnOf "_law_take" "_law_take" (defArgs sTake) (defBody sTake) (defScope sTake) .none kV2 dc2 pm2 an2 cd2 ct2), sl2⟩) (c2 : PySem.W.codeIn K cd2 "_law_take" = true) (k2 : PySem.W.keepIn K (.ref f2) = true)
    (a3 : PySem.W.nsIn K mainGlobals "_law_one" = some (some (.ref f3))) (l3 : K.lookup f3 = some ⟨oc3, od3, .func (PySem.W.fnOf "_law_one" "_law_one" (defArgs sOne) (defBody sOne) (defScope sOne) .none kV3 dc3 pm3 an3 cd3 ct3), sl3⟩) (c3 : PySem.W.codeIn K cd3 "_law_one" = true) (k3 : PySem.W.keepIn K (.ref f3) = true)
    (a4 : PySem.W.nsIn K mainGlobals "_law_same" = some (some (.ref f4))) (l4 : K.lookup f4 = some ⟨oc4, od4, .func (PySem.W.fnOf "_law_same" "_law_same" (defArgs sSame) (defBody sSame) (defScope sSame) .none kV4 dc4 pm4 an4 cd4 ct4), sl4⟩) (c4 : PySem.W.codeIn K cd4 "_law_same" = true) (k4 : PySem.W.keepIn K (.ref f4) = true)
    (a5 : PySem.W.nsIn K mainGlobals "_law_kinds" = some (some (.ref f5))) (l5 : K.lookup f5 = some ⟨oc5, od5, .func (PySem.W.fnOf "_law_kinds" "_law_kinds" (defArgs sKinds) (defBody sKinds) (defScope sKinds) .none kV5 dc5 pm5 an5 cd5 ct5), sl5⟩) (c5 : PySem.W.codeIn K cd5 "_law_kinds" = true) (k5 : PySem.W.keepIn K (.ref f5) = true)
    (a6 : PySem.W.nsIn K mainGlobals "_law_made" = some (some (.ref f6))) (l6 : K.lookup f6 = some ⟨oc6, od6, .func (PySem.W.fnOf "_law_made" "_law_made" (defArgs sMade) (defBody sMade) (defScope sMade) .none kV6 dc6 pm6 an6 cd6 ct6), sl6⟩) (c6 : PySem.W.codeIn K cd6 "_law_made" = true) (k6 : PySem.W.keepIn K (.ref f6) = true)
    (a7 : PySem.W.nsIn K mainGlobals "_law_raised" = some (some (.ref f7))) (l7 : K.lookup f7 = some ⟨oc7, od7, .func (PySem.W.fnOf "_law_raised" "_law_raised" (defArgs sRaised) (defBody sRaised) (defScope sRaised) .none kV7 dc7 pm7 an7 cd7 ct7), sl7⟩) (c7 : PySem.W.codeIn K cd7 "_law_raised" = true) (k7 : PySem.W.keepIn K (.ref f7) = true)
    (a8 : PySem.W.nsIn K mainGlobals "_law_caught" = some (some (.ref f8))) (l8 : K.lookup f8 = some ⟨oc8, od8, .func (PySem.W.fnOf "_law_caught" "_law_caught" (defArgs sCaught) (defBody sCaught) (defScope sCaught) .none kV8 dc8 pm8 an8 cd8 ct8), sl8⟩) (c8 : PySem.W.codeIn K cd8 "_law_caught" = true) (k8 : PySem.W.keepIn K (.ref f8) = true)
    (a9 : PySem.W.nsIn K mainGlobals "law" = some (some (.ref f9))) (l9 : K.lookup f9 = some ⟨oc9, od9, .func (PySem.W.fnOf "law" "law" (defArgs sLaw) (defBody sLaw) (defScope sLaw) .none kV9 dc9 pm9 an9 cd9 ct9), sl9⟩) (c9 : PySem.W.codeIn K cd9 "law" = true) (k9 : PySem.W.keepIn K (.ref f9) = true)
    (z_len : PySem.W.nsIn K mainGlobals "len" = some none)
    (z_int : PySem.W.nsIn K mainGlobals "int" = some none)
    (z_enumerate : PySem.W.nsIn K mainGlobals "enumerate" = some none)
    (z_bool : PySem.W.nsIn K mainGlobals "bool" = some none)
    (z_list : PySem.W.nsIn K mainGlobals "list" = some none)
    (z_tuple : PySem.W.nsIn K mainGlobals "tuple" = some none)
    (z_isinstance : PySem.W.nsIn K mainGlobals "isinstance" = some none)
    (z_all : PySem.W.nsIn K mainGlobals "all" = some none)
    (z_zip : PySem.W.nsIn K mainGlobals "zip" = some none)
    (z_range : PySem.W.nsIn K mainGlobals "range" = some none)
    (z_ValueError : PySem.W.nsIn K mainGlobals "ValueError" = some none)
    (z_KeyError : PySem.W.nsIn K mainGlobals "KeyError" = some none)
    (z_LookupError : PySem.W.nsIn K mainGlobals "LookupError" = some none)
    (z_ArithmeticError : PySem.W.nsIn K mainGlobals "ArithmeticError" = some none)
    (gc0 : PySem.W.nsIn K mainGlobals "Error" = some (some (.ref C0)))
    (gc1 : PySem.W.nsIn K mainGlobals "InterfaceError" = some (some (.ref C1)))
    (gc2 : PySem.W.nsIn K mainGlobals "DatabaseError" = some (some (.ref C2)))
    (gc3 : PySem.W.nsIn K mainGlobals "DataError" = some (some (.ref C3)))
    (gc4 : PySem.W.nsIn K mainGlobals "OperationalError" = some (some (.ref C4)))
    (gc5 : PySem.W.nsIn K mainGlobals "IntegrityError" = some (some (.ref C5)))
    (gc6 : PySem.W.nsIn K mainGlobals "InternalError" = some (some (.ref C6)))
    (gc7 : PySem.W.nsIn K mainGlobals "ProgrammingError" = some (some (.ref C7)))
    (gc8 : PySem.W.nsIn K mainGlobals "NotSupportedError" = some (some (.ref C8)))
    (inI : PySem.W.findIn K (.ref C0) "__init__" = some (some (.ref fI))) (lI : K.lookup fI = some ⟨ocI, odI, .func (PySem.W.fnOf "__init__" "Error.__init__" (defArgs sInit) (defBody sInit) (defScope sInit) (.ref TD) kVI dcI pmI anI cdI ctI), slI⟩) (cI : PySem.W.codeIn K cdI "Error.__init__" = true) (kI : PySem.W.keepIn K (.ref fI) = true) (tI : PySem.W.typeIn K (.ref fI) = some (.type "function")) (lD : K.lookup TD = some ⟨.type "tuple", oD, .seq #[.none] nD, sD⟩)
    (on0 : One K C0 fI)
    (on1 : One K C1 fI)
    (on2 : One K C2 fI)
    (on3 : One K C3 fI)
    (on4 : One K C4 fI)
    (on5 : One K C5 fI)
    (on6 : One K C6 fI)
    (on7 : One K C7 fI)
    (on8 : One K C8 fI)
    (q00 : PySem.W.subIn K (.ref C0) (.ref C0) = some true) (q01 : PySem.W.subIn K (.ref C0) (.ref C1) = some false) (q02 : PySem.W.subIn K (.ref C0) (.ref C2) = some false) (q03 : PySem.W.subIn K (.ref C0) (.ref C3) = some false) (q04 : PySem.W.subIn K (.ref C0) (.ref C4) = some false) (q05 : PySem.W.subIn K (.ref C0) (.ref C5) = some false) (q06 : PySem.W.subIn K (.ref C0) (.ref C6) = some false) (q07 : PySem.W.subIn K (.ref C0) (.ref C7) = some false) (q08 : PySem.W.subIn K (.ref C0) (.ref C8) = some false)
    (y00 : PySem.W.subIn K (.ref C0) (.type "ValueError") = some false)
    (y01 : PySem.W.subIn K (.ref C0) (.type "KeyError") = some false)
    (y02 : PySem.W.subIn K (.ref C0) (.type "LookupError") = some false)
    (y03 : PySem.W.subIn K (.ref C0) (.type "ArithmeticError") = some false)
    (q10 : PySem.W.subIn K (.ref C1) (.ref C0) = some true) (q11 : PySem.W.subIn K (.ref C1) (.ref C1) = some true) (q12 : PySem.W.subIn K (.ref C1) (.ref C2) = some false) (q13 : PySem.W.subIn K (.ref C1) (.ref C3) = some false) (q14 : PySem.W.subIn K (.ref C1) (.ref C4) = some false) (q15 : PySem.W.subIn K (.ref C1) (.ref C5) = some false) (q16 : PySem.W.subIn K (.ref C1) (.ref C6) = some false) (q17 : PySem.W.subIn K (.ref C1) (.ref C7) = some false) (q18 : PySem.W.subIn K (.ref C1) (.ref C8) = some false)
    (y10 : PySem.W.subIn K (.ref C1) (.type "ValueError") = some false)
    (y11 : PySem.W.subIn K (.ref C1) (.type "KeyError") = some false)
    (y12 : PySem.W.subIn K (.ref C1) (.type "LookupError") = some false)
    (y13 : PySem.W.subIn K (.ref C1) (.type "ArithmeticError") = some false)
    (q20 : PySem.W.subIn K (.ref C2) (.ref C0) = some true) (q21 : PySem.W.subIn K (.ref C2) (.ref C1) = some false) (q22 : PySem.W.subIn K (.ref C2) (.ref C2) = some true) (q23 : PySem.W.subIn K (.ref C2) (.ref C3) = some false) (q24 : PySem.W.subIn K (.ref C2) (.ref C4) = some false) (q25 : PySem.W.subIn K (.ref C2) (.ref C5) = some false) (q26 : PySem.W.subIn K (.ref C2) (.ref C6) = some false) (q27 : PySem.W.subIn K (.ref C2) (.ref C7) = some false) (q28 : PySem.W.subIn K (.ref C2) (.ref C8) = some false)
    (y20 : PySem.W.subIn K (.ref C2) (.type "ValueError") = some false)
    (y21 : PySem.W.subIn K (.ref C2) (.type "KeyError") = some false)
    (y22 : PySem.W.subIn K (.ref C2) (.type "LookupError") = some false)
    (y23 : PySem.W.subIn K (.ref C2) (.type "ArithmeticError") = some false)
    (q30 : PySem.W.subIn K (.ref C3) (.ref C0) = some true) (q31 : PySem.W.subIn K (.ref C3) (.ref C1) = some false) (q32 : PySem.W.subIn K (.ref C3) (.ref C2) = some true) (q33 : PySem.W.subIn K (.ref C3) (.ref C3) = some true) (q34 : PySem.W.subIn K (.ref C3) (.ref C4) = some false) (q35 : PySem.W.subIn K (.ref C3) (.ref C5) = some false) (q36 : PySem.W.subIn K (.ref C3) (.ref C6) = some false) (q37 : PySem.W.subIn K (.ref C3) (.ref C7) = some false) (q38 : PySem.W.subIn K (.ref C3) (.ref C8) = some false)
    (y30 : PySem.W.subIn K (.ref C3) (.type "ValueError") = some false)
    (y31 : PySem.W.subIn K (.ref C3) (.type "KeyError") = some false)
    (y32 : PySem.W.subIn K (.ref C3) (.type "LookupError") = some false)
    (y33 : PySem.W.subIn K (.ref C3) (.type "ArithmeticError") = some false)
    (q40 : PySem.W.subIn K (.ref C4) (.ref C0) = some true) (q41 : PySem.W.subIn K (.ref C4) (.ref C1) = some false) (q42 : PySem.W.subIn K (.ref C4) (.ref C2) = some true) (q43 : PySem.W.subIn K (.ref C4) (.ref C3) = some false) (q44 : PySem.W.subIn K (.ref C4) (.ref C4) = some true) (q45 : PySem.W.subIn K (.ref C4) (.ref C5) = some false) (q46 : PySem.W.subIn K (.ref C4) (.ref C6) = some false) (q47 : PySem.W.subIn K (.ref C4) (.ref C7) = some false) (q48 : PySem.W.subIn K (.ref C4) (.ref C8) = some false)
    (y40 : PySem.W.subIn K (.ref C4) (.type "ValueError") = some false)
    (y41 : PySem.W.subIn K (.ref C4) (.type "KeyError") = some false)
    (y42 : PySem.W.subIn K (.ref C4) (.type "LookupError") = some false)
    (y43 : PySem.W.subIn K (.ref C4) (.type "ArithmeticError") = some false)
    (q50 : PySem.W.subIn K (.ref C5) (.ref C0) = some true) (q51 : PySem.W.subIn K (.ref C5) (.ref C1) = some false) (q52 : PySem.W.subIn K (.ref C5) (.ref C2) = some true) (q53 : PySem.W.subIn K (.ref C5) (.ref C3) = some false) (q54 : PySem.W.subIn K (.ref C5) (.ref C4) = some false) (q55 : PySem.W.subIn K (.ref C5) (.ref C5) = some true) (q56 : PySem.W.subIn K (.ref C5) (.ref C6) = some false) (q57 : PySem.W.subIn K (.ref C5) (.ref C7) = some false) (q58 : PySem.W.subIn K (.ref C5) (.ref C8) = some false)
    (y50 : PySem.W.subIn K (.ref C5) (.type "ValueError") = some false)
    (y51 : PySem.W.subIn K (.ref C5) (.type "KeyError") = some false)
    (y52 : PySem.W.subIn K (.ref C5) (.type "LookupError") = some false)
    (y53 : PySem.W.subIn K (.ref C5) (.type "ArithmeticError") = some false)
    (q60 : PySem.W.subIn K (.ref C6) (.ref C0) = some true) (q61 : PySem.W.subIn K (.ref C6) (.ref C1) = some false) (q62 : PySem.W.subIn K (.ref C6) (.ref C2) = some true) (q63 : PySem.W.subIn K (.ref C6) (.ref C3) = some false) (q64 : PySem.W.subIn K (.ref C6) (.ref C4) = some false) (q65 : PySem.W.subIn K (.ref C6) (.ref C5) = some false) (q66 : PySem.W.subIn K (.ref C6) (.ref C6) = some true) (q67 : PySem.W.subIn K (.ref C6) (.ref C7) = some false) (q68 : PySem.W.subIn K (.ref C6) (.ref C8) = some false)
    (y60 : PySem.W.subIn K (.ref C6) (.type "ValueError") = some false)
    (y61 : PySem.W.subIn K (.ref C6) (.type "KeyError") = some false)
    (y62 : PySem.W.subIn K (.ref C6) (.type "LookupError") = some false)
    (y63 : PySem.W.subIn K (.ref C6) (.type "ArithmeticError") = some false)
    (q70 : PySem.W.subIn K (.ref C7) (.ref C0) = some true) (q71 : PySem.W.subIn K (.ref C7) (.ref C1) = some false) (q72 : PySem.W.subIn K (.ref C7) (.ref C2) = some true) (q73 : PySem.W.subIn K (.ref C7) (.ref C3) = some false) (q74 : PySem.W.subIn K (.ref C7) (.ref C4) = some false) (q75 : PySem.W.subIn K (.ref C7) (.ref C5) = some false) (q76 : PySem.W.subIn K (.ref C7) (.ref C6) = some false) (q77 : PySem.W.subIn K (.ref C7) (.ref C7) = some true) (q78 : PySem.W.subIn K (.ref C7) (.ref C8) = some false)
    (y70 : PySem.W.subIn K (.ref C7) (.type "ValueError") = some false)
    (y71 : PySem.W.subIn K (.ref C7) (.type "KeyError") = some false)
    (y72 : PySem.W.subIn K (.ref C7) (.type "LookupError") = some false)
    (y73 : PySem.W.subIn K (.ref C7) (.type "ArithmeticError") = some false)
    (q80 : PySem.W.subIn K (.ref C8) (.ref C0) = some true) (q81 : PySem.W.subIn K (.ref C8) (.ref C1) = some false) (q82 : PySem.W.subIn K (.ref C8) (.ref C2) = some true) (q83 : PySem.W.subIn K (.ref C8) (.ref C3) = some false) (q84 : PySem.W.subIn K (.ref C8) (.ref C4) = some false) (q85 : PySem.W.subIn K (.ref C8) (.ref C5) = some false) (q86 : PySem.W.subIn K (.ref C8) (.ref C6) = some false) (q87 : PySem.W.subIn K (.ref C8) (.ref C7) = some false) (q88 : PySem.W.subIn K (.ref C8) (.ref C8) = some true)
    (y80 : PySem.W.subIn K (.ref C8) (.type "ValueError") = some false)
    (y81 : PySem.W.subIn K (.ref C8) (.type "KeyError") = some false)
    (y82 : PySem.W.subIn K (.ref C8) (.type "LookupError") = some false)
    (y83 : PySem.W.subIn K (.ref C8) (.type "ArithmeticError") = some false) :
    ∃ fd : FuncData, (∀ (s : Shared) (v : Value), BindsTo s fd ⟨[v], []⟩ [("_law_script", v)]) ∧ ∀ base : Heap, K.In base → base.Ns mainGlobals mg → FnOk l.prog w K mg base CX0 5 fa fd ["_law_script"] (spLaw K) := by
  have e := hfa.symm.trans (PySem.W.mg_of X G a9)
  cases e
  have T : Tx mg := ⟨PySem.W.mg_none_of X G z_len, PySem.W.mg_none_of X G z_int, PySem.W.mg_none_of X G z_enumerate⟩
  have T2 : Ty mg := ⟨PySem.W.mg_none_of X G z_len, PySem.W.mg_none_of X G z_int, PySem.W.mg_none_of X G z_bool, PySem.W.mg_none_of X G z_list, PySem.W.mg_none_of X G z_tuple, PySem.W.mg_none_of X G z_isinstance, PySem.W.mg_none_of X G z_all, PySem.W.mg_none_of X G z_zip⟩
  have T3 : Tl mg := ⟨PySem.W.mg_none_of X G z_range, PySem.W.mg_none_of X G z_isinstance, PySem.W.mg_none_of X G z_ValueError, PySem.W.mg_none_of X G z_KeyError, PySem.W.mg_none_of X G z_LookupError, PySem.W.mg_none_of X G z_ArithmeticError⟩
  have FI0 : FI K fI (PySem.W.fnOf "__init__" "Error.__init__" (defArgs sInit) (defBody sInit) (defScope sInit) (.ref TD) kVI dcI pmI anI cdI ctI) :=
    ⟨⟨ocI, odI, _, kVI, dcI, pmI, anI, cdI, ctI, slI, rfl, lI, cI, .inr ⟨by decide, TD, _, [.none], nD, rfl, lD, rfl, .cons rfl .nil⟩, .inl rfl⟩, kI⟩
  have T9 : Cls9 K mg (nine [C0, C1, C2, C3, C4, C5, C6, C7, C8]) fI := by
    refine ⟨fun i hi => match i, hi with | 0, _ => on0.oe | 1, _ => on1.oe | 2, _ => on2.oe | 3, _ => on3.oe | 4, _ => on4.oe | 5, _ => on5.oe | 6, _ => on6.oe | 7, _ => on7.oe | 8, _ => on8.oe | n + 9, h => absurd h (by omega), fun i hi => match i, hi with | 0, _ => on0.ec | 1, _ => on1.ec | 2, _ => on2.ec | 3, _ => on3.ec | 4, _ => on4.ec | 5, _ => on5.ec | 6, _ => on6.ec | 7, _ => on7.ec | 8, _ => on8.ec | n + 9, h => absurd h (by omega), fun i hi => match i, hi with | 0, _ => on0.no | 1, _ => on1.no | 2, _ => on2.no | 3, _ => on3.no | 4, _ => on4.no | 5, _ => on5.no | 6, _ => on6.no | 7, _ => on7.no | 8, _ => on8.no | n + 9, h => absurd h (by omega), fun i hi => match i, hi with | 0, _ => on0.ini | 1, _ => on1.ini | 2, _ => on2.ini | 3, _ => on3.ini | 4, _ => on4.ini | 5, _ => on5.ini | 6, _ => on6.ini | 7, _ => on7.ini | 8, _ => on8.ini | n + 9, h => absurd h (by omega), tI, fun i hi => match i, hi with | 0, _ => PySem.W.mg_of X G gc0 | 1, _ => PySem.W.mg_of X G gc1 | 2, _ => PySem.W.mg_of X G gc2 | 3, _ => PySem.W.mg_of X G gc3 | 4, _ => PySem.W.mg_of X G gc4 | 5, _ => PySem.W.mg_of X G gc5 | 6, _ => PySem.W.mg_of X G gc6 | 7, _ => PySem.W.mg_of X G gc7 | 8, _ => PySem.W.mg_of X G gc8 | n + 9, h => absurd h (by omega), ?_, fun i hi => match i, hi with | 0, _ => kit_bi4 y00 y01 y02 y03 | 1, _ => kit_bi4 y10 y11 y12 y13 | 2, _ => kit_bi4 y20 y21 y22 y23 | 3, _ => kit_bi4 y30 y31 y32 y33 | 4, _ => kit_bi4 y40 y41 y42 y43 | 5, _ => kit_bi4 y50 y51 y52 y53 | 6, _ => kit_bi4 y60 y61 y62 y63 | 7, _ => kit_bi4 y70 y71 y72 y73 | 8, _ => kit_bi4 y80 y81 y82 y83 | n + 9, h => absurd h (by omega), ?_⟩
    · intro i j hi hj
      match i, hi, j, hj with
      | 0, _, 0, _ => exact kit_sub on0 q00 q00
      | 0, _, 1, _ => exact kit_sub on1 q11 q01
      | 0, _, 2, _ => exact kit_sub on2 q22 q02
      | 0, _, 3, _ => exact kit_sub on3 q33 q03
      | 0, _, 4, _ => exact kit_sub on4 q44 q04
      | 0, _, 5, _ => exact kit_sub on5 q55 q05
      | 0, _, 6, _ => exact kit_sub on6 q66 q06
      | 0, _, 7, _ => exact kit_sub on7 q77 q07
      | 0, _, 8, _ => exact kit_sub on8 q88 q08
      | 1, _, 0, _ => exact kit_sub on0 q00 q10
      | 1, _, 1, _ => exact kit_sub on1 q11 q11
      | 1, _, 2, _ => exact kit_sub on2 q22 q12
      | 1, _, 3, _ => exact kit_sub on3 q33 q13
      | 1, _, 4, _ => exact kit_sub on4 q44 q14
      | 1, _, 5, _ => exact kit_sub on5 q55 q15
      | 1, _, 6, _ => exact kit_sub on6 q66 q16
      | 1, _, 7, _ => exact kit_sub on7 q77 q17
      | 1, _, 8, _ => exact kit_sub on8 q88 q18
      | 2, _, 0, _ => exact kit_sub on0 q00 q20
      | 2, _, 1, _ => exact kit_sub on1 q11 q21
      | 2, _, 2, _ => exact kit_sub on2 q22 q22
      | 2, _, 3, _ => exact kit_sub on3 q33 q23
      | 2, _, 4, _ => exact kit_sub on4 q44 q24
      | 2, _, 5, _ => exact kit_sub on5 q55 q25
      | 2, _, 6, _ => exact kit_sub on6 q66 q26
      | 2, _, 7, _ => exact kit_sub on7 q77 q27
      | 2, _, 8, _ => exact kit_sub on8 q88 q28
      | 3, _, 0, _ => exact kit_sub on0 q00 q30
      | 3, _, 1, _ => exact kit_sub on1 q11 q31
      | 3, _, 2, _ => exact kit_sub on2 q22 q32
      | 3, _, 3, _ => exact kit_sub on3 q33 q33
      | 3, _, 4, _ => exact kit_sub on4 q44 q34
      | 3, _, 5, _ => exact kit_sub on5 q55 q35
      | 3, _, 6, _ => exact kit_sub on6 q66 q36
      | 3, _, 7, _ => exact kit_sub on7 q77 q37
      | 3, _, 8, _ => exact kit_sub on8 q88 q38
      | 4, _, 0, _ => exact kit_sub on0 q00 q40
      | 4, _, 1, _ => exact kit_sub on1 q11 q41
      | 4, _, 2, _ => exact kit_sub on2 q22 q42
      | 4, _, 3, _ => exact kit_sub on3 q33 q43
      | 4, _, 4, _ => exact kit_sub on4 q44 q44
      | 4, _, 5, _ => exact kit_sub on5 q55 q45
      | 4, _, 6, _ => exact kit_sub on6 q66 q46
      | 4, _, 7, _ => exact kit_sub on7 q77 q47
      | 4, _, 8, _ => exact kit_sub on8 q88 q48
      | 5, _, 0, _ => exact kit_sub on0 q00 q50
      | 5, _, 1, _ => exact kit_sub on1 q11 q51
      | 5, _, 2, _ => exact kit_sub on2 q22 q52
      | 5, _, 3, _ => exact kit_sub on3 q33 q53
      | 5, _, 4, _ => exact kit_sub on4 q44 q54
      | 5, _, 5, _ => exact kit_sub on5 q55 q55
      | 5, _, 6, _ => exact kit_sub on6 q66 q56
      | 5, _, 7, _ => exact kit_sub on7 q77 q57
      | 5, _, 8, _ => exact kit_sub on8 q88 q58
      | 6, _, 0, _ => exact kit_sub on0 q00 q60
      | 6, _, 1, _ => exact kit_sub on1 q11 q61
      | 6, _, 2, _ => exact kit_sub on2 q22 q62
      | 6, _, 3, _ => exact kit_sub on3 q33 q63
      | 6, _, 4, _ => exact kit_sub on4 q44 q64
      | 6, _, 5, _ => exact kit_sub on5 q55 q65
      | 6, _, 6, _ => exact kit_sub on6 q66 q66
      | 6, _, 7, _ => exact kit_sub on7 q77 q67
      | 6, _, 8, _ => exact kit_sub on8 q88 q68
      | 7, _, 0, _ => exact kit_sub on0 q00 q70
      | 7, _, 1, _ => exact kit_sub on1 q11 q71
      | 7, _, 2, _ => exact kit_sub on2 q22 q72
      | 7, _, 3, _ => exact kit_sub on3 q33 q73
      | 7, _, 4, _ => exact kit_sub on4 q44 q74
      | 7, _, 5, _ => exact kit_sub on5 q55 q75
      | 7, _, 6, _ => exact kit_sub on6 q66 q76
      | 7, _, 7, _ => exact kit_sub on7 q77 q77
      | 7, _, 8, _ => exact kit_sub on8 q88 q78
      | 8, _, 0, _ => exact kit_sub on0 q00 q80
      | 8, _, 1, _ => exact kit_sub on1 q11 q81
      | 8, _, 2, _ => exact kit_sub on2 q22 q82
      | 8, _, 3, _ => exact kit_sub on3 q33 q83
      | 8, _, 4, _ => exact kit_sub on4 q44 q84
      | 8, _, 5, _ => exact kit_sub on5 q55 q85
      | 8, _, 6, _ => exact kit_sub on6 q66 q86
      | 8, _, 7, _ => exact kit_sub on7 q77 q87
      | 8, _, 8, _ => exact kit_sub on8 q88 q88
      | n + 9, h, _, _ => exact absurd h (by omega)
      | _, _, n + 9, h => exact absurd h (by omega)
    · intro i j hi hj
      rcases hj with rfl | rfl
      · match i, hi with
        | 0, _ => exact PySem.W.exm_ref on0.ec.hs on0.ec.hd on0.oe.tyC q00
        | 1, _ => exact PySem.W.exm_ref on0.ec.hs on0.ec.hd on0.oe.tyC q10
        | 2, _ => exact PySem.W.exm_ref on0.ec.hs on0.ec.hd on0.oe.tyC q20
        | 3, _ => exact PySem.W.exm_ref on0.ec.hs on0.ec.hd on0.oe.tyC q30
        | 4, _ => exact PySem.W.exm_ref on0.ec.hs on0.ec.hd on0.oe.tyC q40
        | 5, _ => exact PySem.W.exm_ref on0.ec.hs on0.ec.hd on0.oe.tyC q50
        | 6, _ => exact PySem.W.exm_ref on0.ec.hs on0.ec.hd on0.oe.tyC q60
        | 7, _ => exact PySem.W.exm_ref on0.ec.hs on0.ec.hd on0.oe.tyC q70
        | 8, _ => exact PySem.W.exm_ref on0.ec.hs on0.ec.hd on0.oe.tyC q80
        | n + 9, h => exact absurd h (by omega)
      · match i, hi with
        | 0, _ => exact PySem.W.exm_ref on2.ec.hs on2.ec.hd on2.oe.tyC q02
        | 1, _ => exact PySem.W.exm_ref on2.ec.hs on2.ec.hd on2.oe.tyC q12
        | 2, _ => exact PySem.W.exm_ref on2.ec.hs on2.ec.hd on2.oe.tyC q22
        | 3, _ => exact PySem.W.exm_ref on2.ec.hs on2.ec.hd on2.oe.tyC q32
        | 4, _ => exact PySem.W.exm_ref on2.ec.hs on2.ec.hd on2.oe.tyC q42
        | 5, _ => exact PySem.W.exm_ref on2.ec.hs on2.ec.hd on2.oe.tyC q52
        | 6, _ => exact PySem.W.exm_ref on2.ec.hs on2.ec.hd on2.oe.tyC q62
        | 7, _ => exact PySem.W.exm_ref on2.ec.hs on2.ec.hd on2.oe.tyC q72
        | 8, _ => exact PySem.W.exm_ref on2.ec.hs on2.ec.hd on2.oe.tyC q82
        | n + 9, h => exact absurd h (by omega)
  have D0 : Df K mg "_law_fresh" sFresh ["_law_script"] := df_mk X G a0 l0 c0 k0 fun _ _ _ _ _ _ us hl => match us, hl with | [_], _ => rfl
  have D1 : Df K mg "_law_fill" sFill ["_law_state"] := df_mk X G a1 l1 c1 k1 fun _ _ _ _ _ _ us hl => match us, hl with | [_], _ => rfl
  have D2 : Df K mg "_law_take" sTake ["_law_state", "_law_many"] := df_mk X G a2 l2 c2 k2 fun _ _ _ _ _ _ us hl => match us, hl with | [_, _], _ => rfl
  have D3 : Df K mg "_law_one" sOne ["_law_state", "_law_things"] := df_mk X G a3 l3 c3 k3 fun _ _ _ _ _ _ us hl => match us, hl with | [_, _], _ => rfl
  have D4 : Df K mg "_law_same" sSame ["_law_found", "_law_due"] := df_mk X G a4 l4 c4 k4 fun _ _ _ _ _ _ us hl => match us, hl with | [_, _], _ => rfl
  have D5 : Df K mg "_law_kinds" sKinds ["_law_e"] := df_mk X G a5 l5 c5 k5 fun _ _ _ _ _ _ us hl => match us, hl with | [_], _ => rfl
  have D6 : Df K mg "_law_made" sMade ["_law_nth", "_law_name", "_law_way"] := df_mk X G a6 l6 c6 k6 fun _ _ _ _ _ _ us hl => match us, hl with | [_, _, _], _ => rfl
  have D7 : Df K mg "_law_raised" sRaised ["_law_nth"] := df_mk X G a7 l7 c7 k7 fun _ _ _ _ _ _ us hl => match us, hl with | [_], _ => rfl
  have D8 : Df K mg "_law_caught" sCaught ["_law_nth"] := df_mk X G a8 l8 c8 k8 fun _ _ _ _ _ _ us hl => match us, hl with | [_], _ => rfl
  refine ⟨PySem.W.fnOf "law" "law" (defArgs sLaw) (defBody sLaw) (defScope sLaw) .none kV9 dc9 pm9 an9 cd9 ct9, fun s v => .of_eq rfl, fun base _ _ => ?_⟩
  have P1 := pr_fresh (P := l.prog) (w := w) (base := base) D0
  have P2 := pr_fill (P := l.prog) (w := w) (base := base) D1 T
  have P3 := pr_take D2 T P2
  have P4 := pr_one D3 T P3
  have P5 := pr_same (P := l.prog) (w := w) (base := base) D4 T2 2
  have P6 := pr_kinds (P := l.prog) (w := w) (base := base) D5 T9 T3.isinstance
  have P7 := pr_made (P := l.prog) (w := w) (base := base) D6 FI0 T9
  have P8 := pr_raised (P := l.prog) (w := w) (base := base) D7 FI0 T9
  have P9 := pr_caught D8 T9 P8
  exact ok_law (fun_mk l9 c9 k9) T3 T9 P1 P3 P4 P5 P7 P6 P9
theorem walk {l : PySem.W.OpenLaw} {q : Program} {loose : List Str} {XP : (Str → Option Value) → Heap → Prop} {YP : World → Heap → Prop} {d : DefRec} {K : Params → PySem.W.Frag} (hn : l.most = some 63) (hdf : d.params.defaults = [])
    (hY : ∀ (w : World) (h : Heap), YP w h → (K w.params).In h)
    (F : ∀ (w : World) (mg : Str → Option Value) (fa : Addr) (h : Heap), (K w.params).In h → h.Ns mainGlobals mg → mg d.name = some (.ref fa) →
      ∃ fd : FuncData, (∀ (s : Shared) (u : Value), BindsTo s fd ⟨[u], []⟩ [("_law_script", u)]) ∧ ∀ base : Heap, (K w.params).In base → base.Ns mainGlobals mg → FnOk l.prog w (K w.params) mg base CX0 5 fa fd ["_law_script"] (spLaw (K w.params))) :
    PySem.W.WalkO q loose XP YP l.row.toRowW d [] (fun f vs => PySem.call f vs) :=
  L2.walk_of (n := 63) (k := 5) (x := "_law_script") (CX := fun _ => CX0) (sp := fun w => spLaw (K w.params)) hn (by decide) hdf ⟨rfl, by decide, by decide⟩ hY F (fun _ _ a ns hl _ hS => ⟨a, ns, rfl, hS, hl, fun _ => rfl⟩) fun _ _ _ _ _ z => z
end C00
open PySem PySem.W PyProof.Rows
set_option maxRecDepth 100000 in
set_option maxHeartbeats 0 in
theorem PySem.Challenge.cw_cursorhouse_k00_errors_made_holds : PySem.Challenge.rw_cursorhouse_k00_errors_made.Holds := by
  w_on; o_law; k_head; (case hw => w_witness2)
  k_fill
  refine C00.walk (l := PySem.Challenge.rw_cursorhouse_k00_errors_made) rfl rfl (fun w h Y => PySem.W.kIn_of Y) ?F
  case F =>
    intro w mg fa h KX G hmg
    refine' C00.all_mk KX G hmg ?a0 ?l0 ?c0 ?k0 ?a1 ?l1 ?c1 ?k1 ?a2 ?l2 ?c2 ?k2 ?a3 ?l3 ?c3 ?k3 ?a4 ?l4 ?c4 ?k4 ?a5 ?l5 ?c5 ?k5 ?a6 ?l6 ?c6 ?k6 ?a7 ?l7 ?c7 ?k7 ?a8 ?l8 ?c8 ?k8 ?a9 ?l9 ?c9 ?k9 ?z_len ?z_int ?z_enumerate ?z_bool ?z_list ?z_tuple ?z_isinstance ?z_all ?z_zip ?z_range ?z_ValueError ?z_KeyError ?z_LookupError ?z_ArithmeticError ?gc0 ?gc1 ?gc2 ?gc3 ?gc4 ?gc5 ?gc6 ?gc7 ?gc8 ?inI ?lI ?cI ?kI ?tI ?lD ?on0 ?on1 ?on2 ?on3 ?on4 ?on5 ?on6 ?on7 ?on8 ?q00 ?q01 ?q02 ?q03 ?q04 ?q05 ?q06 ?q07 ?q08 ?y00 ?y01 ?y02 ?y03 ?q10 ?q11 ?q12 ?q13 ?q14 ?q15 ?q16 ?q17 ?q18 ?y10 ?y11 ?y12 ?y13 ?q20 ?q21 ?q22 ?q23 ?q24 ?q25 ?q26 ?q27 ?q28 ?y20 ?y21 ?y22 ?y23 ?q30 ?q31 ?q32 ?q33 ?q34 ?q35 ?q36 ?q37 ?q38 ?y30 ?y31 ?y32 ?y33 ?q40 ?q41 ?q42 ?q43 ?q44 ?q45 ?q46 ?q47 ?q48 ?y40 ?y41 ?y42 ?y43 ?q50 ?q51 ?q52 ?q53 ?q54 ?q55 ?q56 ?q57 ?q58 ?y50 ?y51 ?y52 ?y53 ?q60 ?q61 ?q62 ?q63 ?q64 ?q65 ?q66 ?q67 ?q68 ?y60 ?y61 ?y62 ?y63 ?q70 ?q71 ?q72 ?q73 ?q74 ?q75 ?q76 ?q77 ?q78 ?y70 ?y71 ?y72 ?y73 ?q80 ?q81 ?q82 ?q83 ?q84 ?q85 ?q86 ?q87 ?q88 ?y80 ?y81 ?y82 ?y83
    (case a0 => k_is)
    (case l0 => k_is)
    (case c0 => k_is)
    (case k0 => k_is)
    (case a1 => k_is)
    (case l1 => k_is)
    (case c1 => k_is)
    (case k1 => k_is)
    (case a2 => k_is)
    (case l2 => k_is)
    (case c2 => k_is)
    (case k2 => k_is)
    (case a3 => k_is)
    (case l3 => k_is)
    (case c3 => k_is)
    (case k3 => k_is)
    (case a4 => k_is)
    (case l4 => k_is)
    (case c4 => k_is)
    (case k4 => k_is)
    (case a5 => k_is)
    (case l5 => k_is)
    (case c5 => k_is)
    (case k5 => k_is)
    (case a6 => k_is)
    (case l6 => k_is)
    (case c6 => k_is)
    (case k6 => k_is)
    (case a7 => k_is)
    (case l7 => k_is)
    (case c7 => k_is)
    (case k7 => k_is)
    (case a8 => k_is)
    (case l8 => k_is)
    (case c8 => k_is)
    (case k8 => k_is)
    (case a9 => k_is)
    (case l9 => k_is)
    (case c9 => k_is)
    (case k9 => k_is)
    (case z_len => k_is)
    (case z_int => k_is)
    (case z_enumerate => k_is)
    (case z_bool => k_is)
    (case z_list => k_is)
    (case z_tuple => k_is)
    (case z_isinstance => k_is)
    (case z_all => k_is)
    (case z_zip => k_is)
    (case z_range => k_is)
    (case z_ValueError => k_is)
    (case z_KeyError => k_is)
    (case z_LookupError => k_is)
    (case z_ArithmeticError => k_is)
    (case gc0 => k_is)
    (case gc1 => k_is)
    (case gc2 => k_is)
    (case gc3 => k_is)
    (case gc4 => k_is)
    (case gc5 => k_is)
    (case gc6 => k_is)
    (case gc7 => k_is)
    (case gc8 => k_is)
    (case inI => k_is)
    (case lI => k_is)
    (case cI => k_is)
    (case kI => k_is)
    (case tI => k_is)
    (case lD => k_is)
    (case on0 => refine' C00.one_mk ?l ?r ?sa ?ex ?ty ?kc ?hg ?hk ?hd ?ha ?hm ?hn ?ht ?no ?ini; (case l => k_is); (case r => decide +kernel); (case sa => k_is); (case ex => k_is); (case ty => k_is); (case kc => k_is); (case hg => k_is); (case hk => k_is); (case hd => k_is); (case ha => k_is); (case hm => k_is); (case hn => k_is); (case ht => k_is); (case no => k_is); (case ini => k_is))
    (case on1 => refine' C00.one_mk ?l ?r ?sa ?ex ?ty ?kc ?hg ?hk ?hd ?ha ?hm ?hn ?ht ?no ?ini; (case l => k_is); (case r => decide +kernel); (case sa => k_is); (case ex => k_is); (case ty => k_is); (case kc => k_is); (case hg => k_is); (case hk => k_is); (case hd => k_is); (case ha => k_is); (case hm => k_is); (case hn => k_is); (case ht => k_is); (case no => k_is); (case ini => k_is))
    (case on2 => refine' C00.one_mk ?l ?r ?sa ?ex ?ty ?kc ?hg ?hk ?hd ?ha ?hm ?hn ?ht ?no ?ini; (case l => k_is); (case r => decide +kernel); (case sa => k_is); (case ex => k_is); (case ty => k_is); (case kc => k_is); (case hg => k_is); (case hk => k_is); (case hd => k_is); (case ha => k_is); (case hm => k_is); (case hn => k_is); (case ht => k_is); (case no => k_is); (case ini => k_is))
    (case on3 => refine' C00.one_mk ?l ?r ?sa ?ex ?ty ?kc ?hg ?hk ?hd ?ha ?hm ?hn ?ht ?no ?ini; (case l => k_is); (case r => decide +kernel); (case sa => k_is); (case ex => k_is); (case ty => k_is); (case kc => k_is); (case hg => k_is); (case hk => k_is); (case hd => k_is); (case ha => k_is); (case hm => k_is); (case hn => k_is); (case ht => k_is); (case no => k_is); (case ini => k_is))
    (case on4 => refine' C00.one_mk ?l ?r ?sa ?ex ?ty ?kc ?hg ?hk ?hd ?ha ?hm ?hn ?ht ?no ?ini; (case l => k_is); (case r => decide +kernel); (case sa => k_is); (case ex => k_is); (case ty => k_is); (case kc => k_is); (case hg => k_is); (case hk => k_is); (case hd => k_is); (case ha => k_is); (case hm => k_is); (case hn => k_is); (case ht => k_is); (case no => k_is); (case ini => k_is))
    (case on5 => refine' C00.one_mk ?l ?r ?sa ?ex ?ty ?kc ?hg ?hk ?hd ?ha ?hm ?hn ?ht ?no ?ini; (case l => k_is); (case r => decide +kernel); (case sa => k_is); (case ex => k_is); (case ty => k_is); (case kc => k_is); (case hg => k_is); (case hk => k_is); (case hd => k_is); (case ha => k_is); (case hm => k_is); (case hn => k_is); (case ht => k_is); (case no => k_is); (case ini => k_is))
    (case on6 => refine' C00.one_mk ?l ?r ?sa ?ex ?ty ?kc ?hg ?hk ?hd ?ha ?hm ?hn ?ht ?no ?ini; (case l => k_is); (case r => decide +kernel); (case sa => k_is); (case ex => k_is); (case ty => k_is); (case kc => k_is); (case hg => k_is); (case hk => k_is); (case hd => k_is); (case ha => k_is); (case hm => k_is); (case hn => k_is); (case ht => k_is); (case no => k_is); (case ini => k_is))
    (case on7 => refine' C00.one_mk ?l ?r ?sa ?ex ?ty ?kc ?hg ?hk ?hd ?ha ?hm ?hn ?ht ?no ?ini; (case l => k_is); (case r => decide +kernel); (case sa => k_is); (case ex => k_is); (case ty => k_is); (case kc => k_is); (case hg => k_is); (case hk => k_is); (case hd => k_is); (case ha => k_is); (case hm => k_is); (case hn => k_is); (case ht => k_is); (case no => k_is); (case ini => k_is))
    (case on8 => refine' C00.one_mk ?l ?r ?sa ?ex ?ty ?kc ?hg ?hk ?hd ?ha ?hm ?hn ?ht ?no ?ini; (case l => k_is); (case r => decide +kernel); (case sa => k_is); (case ex => k_is); (case ty => k_is); (case kc => k_is); (case hg => k_is); (case hk => k_is); (case hd => k_is); (case ha => k_is); (case hm => k_is); (case hn => k_is); (case ht => k_is); (case no => k_is); (case ini => k_is))
    (case q00 => k_is)
    (case q01 => k_is)
    (case q02 => k_is)
    (case q03 => k_is)
    (case q04 => k_is)
    (case q05 => k_is)
    (case q06 => k_is)
    (case q07 => k_is)
    (case q08 => k_is)
    (case y00 => k_is)
    (case y01 => k_is)
    (case y02 => k_is)
    (case y03 => k_is)
    (case q10 => k_is)
    (case q11 => k_is)
    (case q12 => k_is)
    (case q13 => k_is)
    (case q14 => k_is)
    (case q15 => k_is)
    (case q16 => k_is)
    (case q17 => k_is)
    (case q18 => k_is)
    (case y10 => k_is)
    (case y11 => k_is)
    (case y12 => k_is)
    (case y13 => k_is)
    (case q20 => k_is)
    (case q21 => k_is)
    (case q22 => k_is)
    (case q23 => k_is)
    (case q24 => k_is)
    (case q25 => k_is)
    (case q26 => k_is)
    (case q27 => k_is)
    (case q28 => k_is)
    (case y20 => k_is)
    (case y21 => k_is)
    (case y22 => k_is)
    (case y23 => k_is)
    (case q30 => k_is)
    (case q31 => k_is)
    (case q32 => k_is)
    (case q33 => k_is)
    (case q34 => k_is)
    (case q35 => k_is)
    (case q36 => k_is)
    (case q37 => k_is)
    (case q38 => k_is)
    (case y30 => k_is)
    (case y31 => k_is)
    (case y32 => k_is)
    (case y33 => k_is)
    (case q40 => k_is)
    (case q41 => k_is)
    (case q42 => k_is)
    (case q43 => k_is)
    (case q44 => k_is)
    (case q45 => k_is)
    (case q46 => k_is)
    (case q47 => k_is)
    (case q48 => k_is)
    (case y40 => k_is)
    (case y41 => k_is)
    (case y42 => k_is)
    (case y43 => k_is)
    (case q50 => k_is)
    (case q51 => k_is)
    (case q52 => k_is)
    (case q53 => k_is)
    (case q54 => k_is)
    (case q55 => k_is)
    (case q56 => k_is)
    (case q57 => k_is)
    (case q58 => k_is)
    (case y50 => k_is)
    (case y51 => k_is)
    (case y52 => k_is)
    (case y53 => k_is)
    (case q60 => k_is)
    (case q61 => k_is)
    (case q62 => k_is)
    (case q63 => k_is)
    (case q64 => k_is)
    (case q65 => k_is)
    (case q66 => k_is)
    (case q67 => k_is)
    (case q68 => k_is)
    (case y60 => k_is)
    (case y61 => k_is)
    (case y62 => k_is)
    (case y63 => k_is)
    (case q70 => k_is)
    (case q71 => k_is)
    (case q72 => k_is)
    (case q73 => k_is)
    (case q74 => k_is)
    (case q75 => k_is)
    (case q76 => k_is)
    (case q77 => k_is)
    (case q78 => k_is)
    (case y70 => k_is)
    (case y71 => k_is)
    (case y72 => k_is)
    (case y73 => k_is)
    (case q80 => k_is)
    (case q81 => k_is)
    (case q82 => k_is)
    (case q83 => k_is)
    (case q84 => k_is)
    (case q85 => k_is)
    (case q86 => k_is)
    (case q87 => k_is)
    (case q88 => k_is)
    (case y80 => k_is)
    (case y81 => k_is)
    (case y82 => k_is)
    (case y83 => k_is)
#print axioms PySem.Challenge.cw_cursorhouse_k00_errors_made_holds
