import PyProof.Rows.All
import Wide.All
import OpenK.AllK
import Wide.FinOn
import HandS.ForMost
import HandS.Walk
import HandS.Evl
import HandS.IsInst
import HandS.StrMore
import HandS.Flow
import HandS.Style
import HandS.Replace
import KE.GoesMore
import HandS.Zip
import HandS.ReplaceLit
import KE.IntTextLaws
import PySem.Challenge.RW_cursorhouse_k63_complete_statements
set_option Elab.async false
set_option maxRecDepth 100000
set_option maxHeartbeats 4000000
/-! Own rules beside the layer: enumerate over a tuple. -/
namespace My
open PySem L2 PyProof.Rows
theorem meets_enumT (l : Addr) (items : Array Value) (n : Nat) (dct : Option Addr) (sl : Array (Option Value)) :
    Meets (Builtin.«enumerate.__new__» ⟨[.type "enumerate", .ref l], []⟩) (fun _ R s => s.heap.get? l = some { cls := .type "tuple", dict := dct, data := .seq items n, slots := sl } ∧
      R (.ok (.ret (.ref (s.heap.push { cls := .type "tuple_iterator", data := .fields #[.ref l, .int 0 0] }).objs.size)))
        { s with heap := (s.heap.push { cls := .type "tuple_iterator", data := .fields #[.ref l, .int 0 0] }).push { cls := .type "enumerate", data := .fields #[.none, .bool false, .ref s.heap.objs.size, rawInt 0, .none, .none] } }) :=
  .of_wp fun prog w A R s h => by
    obtain ⟨hp, g, d, tk, os⟩ := s
    obtain ⟨hl, h⟩ := h
    have hsub := sub_enumerate
    have hL : Heap.IsTuple (Shared.heap ⟨hp, g, d, tk, os⟩) l items := ⟨_, hl, rfl, n, rfl⟩
    wp_walk using AutoSeq1.wpAny_loadPart' hl
    refine wpAny_stack_any fun st => wpAny_pure ?_
    split
    · rename_i c _ _ _ _ _
      cases (c == Value.type "enumerate")
      · wp_walk using AutoSeq1.wpAny_loadPart' hl, wpAny_pyIter_tuple hL
        exact ⟨_, rfl, h⟩
      · wp_walk using AutoSeq1.wpAny_loadPart' hl, wpAny_pyIter_tuple hL
        exact ⟨_, rfl, h⟩
    · wp_walk using AutoSeq1.wpAny_loadPart' hl, wpAny_pyIter_tuple hL
      exact ⟨_, rfl, h⟩
section
variable {prog : Program} {w : World} {A : Around} {E : Value → Shared → Prop} {s : Shared}
theorem call_enumT {l : Addr} {items : Array Value} {Q : Value → Shared → Prop} (hL : s.heap.IsTuple l items)
    (h : ∀ h', IsEnum h' (s.heap.objs.size + 1) s.heap.objs.size 0 .none → h'.IsTupleIter s.heap.objs.size l 0 → h'.objs.size = s.heap.objs.size + 2 →
      (∀ b o, s.heap.get? b = some o → h'.get? b = some o) → Q (.ref (s.heap.objs.size + 1)) { s with heap := h' }) :
    wpAny (model prog w) A (call (.type "enumerate") [.ref l]) Q E s := by
  obtain ⟨⟨c, dct, dt, sl⟩, hl, hc, n, hd⟩ := hL
  replace hc : c = .type "tuple" := hc
  replace hd : dt = .seq items n := hd
  subst hc hd
  refine callType_new F.called_enumerate (by decide) (F.typeCall_enumerate_1 _) (F.newCall_enumerate_1 _) (fun obj => F.args_object_init_2 obj _) F.entry_enumerate_new
    (meets_enumT l items n dct sl) ⟨hl, ?_⟩
  have hz : (s.heap.push { cls := .type "tuple_iterator", data := .fields #[.ref l, .int 0 0] }).objs.size = s.heap.objs.size + 1 := Heap.size_push ..
  show _ ∧ _
  rw [hz]
  have he : IsEnum ((s.heap.push { cls := .type "tuple_iterator", data := .fields #[.ref l, .int 0 0] }).push
      { cls := .type "enumerate", data := .fields #[.none, .bool false, .ref s.heap.objs.size, rawInt 0, .none, .none] }) (s.heap.objs.size + 1) s.heap.objs.size 0 .none := by
    have := Heap.get?_push_size (s.heap.push { cls := .type "tuple_iterator", data := .fields #[.ref l, .int 0 0] })
      (o := { cls := .type "enumerate", data := .fields #[.none, .bool false, .ref s.heap.objs.size, rawInt 0, .none, .none] }) rfl
    rw [hz] at this
    exact this
  exact ⟨⟨_, he, rfl⟩, h _ he ⟨_, Heap.get?_push_of_some _ (Heap.get?_push_size _ rfl), rfl, rfl⟩ (by rw [Heap.size_push, hz]) fun b o x => Heap.get?_push_of_some _ (Heap.get?_push_of_some _ x)⟩
theorem enumT_end {e it l : Addr} {i : Nat} {items : Array Value} {old : Value} {Q : Option Value → Shared → Prop} (hh : A.handled = none)
    (he : IsEnum s.heap e it i old) (hit : s.heap.IsTupleIter it l i) (hl : s.heap.IsTuple l items) (hx : items[i]? = none)
    (hQ : ∀ h', Heap.ExtBut it s.heap h' → Q none { s with heap := h' }) : wpAny (model prog w) A (pyNext (.ref e)) Q E s := by
  have tE : s.TypeIs (.ref e) "enumerate" := ⟨_, he, rfl⟩
  unfold pyNext
  refine wpAny_bind (wpAny_attempt (wpAny_callSpecial?_slot (name := Str.ofString "__next__") tE F.slot_enumerate_next
    (wpAny_call_entry F.slot_enumerate_next tE F.entry_enumerate_next ?_ (F.args_enumerate_next_1 _))))
  show wpAny _ _ (field (.ref e) 2 >>= _) _ _ _
  refine wpAny_bind (wpAny_field he rfl (x := .ref it) rfl ?_)
  refine wpAny_bind (wpAny_nextOf_tuple_end hh hit hl hx fun h' x he' hx' => ?_)
  obtain ⟨o, ho, hc⟩ := hx'
  refine wpAny_bind (wpAny_isInstance (T := "StopIteration") (b := true) ⟨o, ho, hc⟩ isSubtype_stop ?_)
  exact wpAny_pure (hQ _ he')
end
/-- the tuple at a as it stands at each turn, each item in a new pair -/
def Iet (K : PySem.W.Frag) (a : Addr) : It :=
  ⟨fun i H => ∃ (xs : List V) (x : V), SqT K H a xs ∧ xs[i]? = some x, fun i H v H' => ∃ T x, v = .ref T ∧ H T = none ∧ H' = upd H T (.tup [.int (i : Nat), x]) ∧ ∀ xs, SqT K H a xs → xs[i]? = some x, fun i H => ∃ xs : List V, SqT K H a xs ∧ xs.length ≤ i⟩
theorem turn_enumT {P : Program} {w : World} {K : PySem.W.Frag} {elts : List Expr} {kk : Nat} {tpos : Pos} (a e it : Addr) :
    Turn P w K (.Tuple elts kk tpos) (Iet K a) [e, it] e (fun i h => (∃ old, IsEnum h e it ((i : Nat) : Int) old) ∧ h.IsTupleIter it a i ∧ e ≠ it) where
  mem := by simp
  obj := fun i h st b hb => by
    obtain ⟨⟨old, he⟩, ⟨o, ho, hc, hd⟩, _⟩ := st
    have e' : b = e ∨ b = it := by simpa using hb
    rcases e' with z | z
    · rw [z]
      exact ⟨_, he, fun v q => nomatch q⟩
    · rw [z]
      exact ⟨o, ho, fun v q => by rw [hd] at q; cases q⟩
  keep := fun i h h' st k => let ⟨⟨old, he⟩, hi, hne⟩ := st; ⟨⟨old, k e (by simp) _ he⟩, hi.at fun o q => k it (by simp) o q, hne⟩
  item := by
    intro X hP hw hK hc i pins s σ H E I hf st hg
    subst hP hw hK
    obtain ⟨⟨old, he⟩, hit, hne⟩ := st
    obtain ⟨xs, x, hq, hx⟩ := hg
    obtain ⟨its, rv, p, hz⟩ := I.tuple hq
    obtain ⟨u, hu, ru⟩ := rv.get hx
    have hel : e < s.heap.objs.size := Heap.lt_size he
    have hil : it < s.heap.objs.size := by
      obtain ⟨_, q, _⟩ := hit
      exact Heap.lt_size q
    have hlt : i < its.toArray.size := by
      have := (List.getElem?_eq_some_iff.mp hu).1
      simpa using this
    have hai : a ≠ it := by
      intro q
      obtain ⟨o, ho, hc', _⟩ := p
      obtain ⟨o2, ho2, hc2, _⟩ := hit
      rw [q, ho2] at ho
      cases ho
      rw [hc2] at hc'
      injection hc' with e1
      exact absurd e1 (by decide)
    have hae : a ≠ e := by
      intro q
      obtain ⟨o, ho, hc', _⟩ := p
      rw [q, he] at ho
      cases ho
      injection (show Value.type "enumerate" = Value.type "tuple" from hc') with e1
      exact absurd e1 (by decide)
    refine wpAny_pyNext_enum_itemD (Draws.tuple (A := X.A.in1) (show X.A.in1.handled = none from I.ok.hd hc) it a hai its.toArray) he ⟨hit, p⟩ hlt hne (by simp [hne, Ne.symm hae]) fun y h' tk hy ho hit' hT hsz hk => ?_
    have hyu : y = u := by
      have h1 : its.toArray[i]? = some u := by simpa using hu
      rw [h1] at hy
      exact (Option.some.inj hy).symm
    subst hyu
    refine ⟨_, rfl, wpAny_letOwnedTupleGo_enum (s := { s with heap := h', toks := tk + 1 }) ho fun h'' he' sb => ?_⟩
    have hT2 : h''.get? s.heap.objs.size = some { cls := .type "tuple", data := .seq #[.int i tk, y] } := (sb.2 _ (Nat.ne_of_gt hel)).trans hT
    have new : ObjOk X.prog X.w (upd H s.heap.objs.size (.tup [.int (i : Nat), x])) h'' s.heap.objs.size (.tup [.int (i : Nat), x]) :=
      ⟨by show 2 ≤ sizeLine; decide, [.int i tk, y], .cons ⟨_, rfl⟩ (.cons ru .nil), ⟨_, hT2, rfl, _, rfl⟩⟩
    have I1 : Inv X pins σ (upd H s.heap.objs.size (.tup [.int (i : Nat), x])) { s with heap := h'', toks := tk + 1 } :=
      I.turnedNew (ch := [e, it]) (fun b ob hb q => (sb.2 b (fun z => hb (by simp [z]))).trans (hk b ob (fun z => hb (by simp [z])) (fun z => hb (by simp [z])) q)) hf (Nat.le_refl _) new
    refine ⟨.ref s.heap.objs.size, _, I1, rfl, ⟨_, x, rfl, I.hok.fresh (Nat.le_refl _), rfl, fun ys hy => by rw [I.tuple_inj hy hq]; exact hx⟩, ⟨⟨y, ?_⟩, hit'.1.at fun o q => (sb.2 it (Ne.symm hne)).trans q, hne⟩, fun b hb => ?_⟩
    · have e1 : ((i + 1 : Nat) : Int) = (i : Int) + 1 := by omega
      rw [e1]
      exact he'
    · have hb' : b < s.heap.objs.size := by
        have e' : b = e ∨ b = it := by simpa using hb
        rcases e' with z | z
        · rw [z]
          exact hel
        · rw [z]
          exact hil
      rw [upd_ne (Nat.ne_of_lt hb')]
      exact (hf b hb).1
  done := by
    intro X hP hw hK hc i pins s σ H E I hf st hg
    subst hP hw hK
    obtain ⟨⟨old, he⟩, hit, hne⟩ := st
    obtain ⟨xs, hq, hx⟩ := hg
    obtain ⟨its, rv, p, hz⟩ := I.tuple hq
    obtain ⟨f0, f1, f2, f3, f4, f5⟩ := hf it (by simp)
    have hl := rv.length
    exact enumT_end (I.ok.hd hc) he hit p (by simp; omega) fun h' eb => ⟨rfl, I.turned (t' := s.toks) (fun b o hb q => eb b o hb q) f0 f1 f3 f4 f5⟩
  self := fun A i s Q E st h => let ⟨⟨_, he⟩, _⟩ := st; wpAny_pyIter_enum he h
def iEnumT (K : PySem.W.Frag) (ta : TA) : TI := fun σ H R => ta σ H fun vs H1 => ∃ a xs, vs = [.ref a] ∧ SqT K H1 a xs ∧ R (Iet K a) H1
theorem pi_enumT {X : Cx} {e : Expr} {ta : TA} {p pos tpos : Pos} {elts : List Expr} {kk : Nat} (hg : Gl X "enumerate") (hm : X.mg "enumerate" = none) (ha : PA X [e] ta) (hs : starEach [e] X.env = [(false, eval e X.env)] := by rfl) :
    PI X (.Tuple elts kk tpos) (.Call (.Name "enumerate" p) [e] [] pos) (iEnumT X.K ta) := by
  refine ⟨fun pins s σ H R I h => ?_⟩
  refine Call_ (ld_blt I hg hm boot_enumerate (PyProof.Rows.callWith_type1 (thn (ha.run pos pins s σ H _ I h) fun us s1 ⟨vs, H1, I1, r1, q1⟩ => ?_) hs rfl))
  obtain ⟨a, xs, ex, hq, q⟩ := q1
  subst ex
  cases r1 with
  | cons r rr =>
    cases rr
    cases r
    obtain ⟨its, rv, p', hz⟩ := I1.tuple hq
    refine call_enumT (show s1.heap.IsTuple a its.toArray from p') fun h' he hit hsz hk => wpAny_pyIter_enum he ?_
    have I2 : Inv X pins σ H1 { s1 with heap := h' } := I1.kept (t' := s1.toks) hk
    refine ⟨s1.heap.objs.size + 1, [s1.heap.objs.size + 1, s1.heap.objs.size], _, _, H1, rfl, I2, turn_enumT a (s1.heap.objs.size + 1) s1.heap.objs.size, ⟨⟨.none, he⟩, hit, Nat.succ_ne_self _⟩, fun b hb => ?_, q⟩
    have e' : b = s1.heap.objs.size + 1 ∨ b = s1.heap.objs.size := by simpa using hb
    have hle : s1.heap.objs.size ≤ b := by
      rcases e' with z | z
      · rw [z]
        exact Nat.le_add_right _ _
      · rw [z]
        exact Nat.le_refl _
    exact I1.fpOk hle (I1.hok.fresh hle)
theorem walk_enumT {K : PySem.W.Frag} {a : Addr} {xs : List V} : Walk (Iet K a) xs.length (fun H => SqT K H a xs) (YPair (fun i => some (.int (i : Nat))) (fun i => xs[i]?)) :=
  ⟨fun i H hi h => ⟨xs, xs[i], h, by simp [hi]⟩, fun H h => ⟨xs, h, Nat.le_refl _⟩, fun i H v H' hi h y => by
    obtain ⟨T, x, e, f, g, q⟩ := y
    exact ⟨T, .int (i : Nat), x, e, f, g, rfl, q xs h⟩⟩
end My

set_option Elab.async false
set_option maxRecDepth 100000
set_option maxHeartbeats 4000000
set_option linter.all false
/-! A def of the text and what it promises, by its name alone. -/
namespace My
open PySem PySem.Spec PyProof.Rows L2
/-- the def x of the text stands at its name, with parameters ps and no defaults -/
def Df (K : PySem.W.Frag) (mg : Str → Option Value) (x : Str) (st : Stmt) (ps : List Str) : Prop :=
  ∃ f fd, Fun K x x st f fd ∧ Binds K fd ps [] ∧ mg x = some (.ref f)
/-- the def that stands at the name x keeps the promise sp at level k -/
def Pr (P : Program) (w : World) (K : PySem.W.Frag) (mg : Str → Option Value) (base : Heap) (k : Nat) (x : Str) (ps : List Str) (sp : Sp) : Prop :=
  ∃ f fd, FnOk P w K mg base CX0 k f fd ps sp ∧ mg x = some (.ref f) ∧ PySem.W.keepIn K (.ref f) = true ∧ Binds K fd ps []
theorem pe_callP {X : Cx} {k : Nat} {x : Str} {ps : List Str} {sp : Sp} {e : Expr} {es : List Expr} {t : TA} {p pos : Pos}
    (h : Pr X.prog X.w X.K X.mg X.base k x ps sp) (hr : Room k X.A) (hg : Gl X x) (ha : PA X (e :: es) t)
    (hdb : (x == ("__debug__" : Str)) = false := by decide) (he : starEach (e :: es) X.env = (false, eval e X.env) :: starEach es X.env := by rfl) (hpl : (backTo pos (starEach es X.env)).any (·.1) = false := by rfl) :
    PE X (.Call (.Name x p) (e :: es) [] pos) (tCall sp [] E0 t) := by
  obtain ⟨f, fd, F, hm, hk, hb⟩ := h
  exact pe_call F hr hg hm hk hb .nil pass0 ha hdb he hpl
theorem Df.pr {P : Program} {w : World} {K : PySem.W.Frag} {mg : Str → Option Value} {base : Heap} {x : Str} {st : Stmt} {N ps : List Str} {k : Nat} {sp : Sp}
    (D : Df K mg x st ps) (S : FnScope N ps (defScope st)) (len : ∀ vs H Q E, sp vs H Q E → vs.length = ps.length)
    (hbody : ∀ (f : Addr) (cdv : Value) (A : Around) (outer : List Env) (s : Shared) (H : Hp) (vs : List V) (Q : VK) (E : XK), Room k (A.deeper (envOfC x (defScope st) s.heap.objs.size f cdv)) → sp vs H Q E →
      ∃ t, PSs (cxOf CX0 P w K mg base N x (defScope st) f cdv A outer s H E).nox (defBody st) t ∧ t { nx := fun _ H' => Q .non H', rt := Q } (start N vs) H) :
    Pr P w K mg base (k + 1) x ps sp := by
  obtain ⟨f, fd, F, b, g⟩ := D
  exact ⟨f, fd, F.ok S len (hbody f), g, F.kp, b⟩
/-- all but the object at p stays -/
def But (p : Addr) (H H' : Hp) : Prop := ∀ b o, H b = some o → b ≠ p → H' b = some o
theorem But.refl (p : Addr) (H : Hp) : But p H H := fun _ _ e _ => e
theorem But.trans {p : Addr} {H H1 H2 : Hp} (a : But p H H1) (b : But p H1 H2) : But p H H2 := fun x o e n => b x o (a x o e n) n
theorem But.upd {p : Addr} {H H1 : Hp} {o : HO} (a : But p H H1) : But p H (upd H1 p o) := fun x u e n => by
  rw [upd_ne n]
  exact a x u e n
theorem But.new {p q : Addr} {H H1 : Hp} {o : HO} (a : But p H H1) (h : H1 q = none) : But p H (L2.upd H1 q o) := fun x u e n => by
  rw [upd_ne (ne_of_none (a x u e n) h)]
  exact a x u e n
/-- the law's own drawing state at st: cells at c (the script's numbers), the rest open -/
def Drw (H : Hp) (st c : Addr) (ns : List Int) : Prop :=
  H c = some (.lst (ns.map V.int)) ∧ ∃ (n v : Int) (b : Bool), 0 ≤ n ∧ H st = some (.lst [.ref c, .int n, .int v, .bl b])
theorem Drw.ne {H : Hp} {st c : Addr} {ns : List Int} (h : Drw H st c ns) : c ≠ st := by
  obtain ⟨hc, n, v, b, _, hs⟩ := h
  refine ne_of hc hs fun e => ?_
  injection e with e
  cases ns with
  | nil => cases e
  | cons a r =>
    injection e with e1 _
    cases e1
theorem Drw.put {H : Hp} {st c : Addr} {ns : List Int} (h : Drw H st c ns) {n v : Int} {b : Bool} (h0 : 0 ≤ n) : Drw (L2.upd H st (.lst [.ref c, .int n, .int v, .bl b])) st c ns :=
  ⟨by rw [upd_ne h.ne]; exact h.1, n, v, b, h0, upd_same⟩
theorem Drw.new {H : Hp} {st c q : Addr} {ns : List Int} {o : HO} (h : Drw H st c ns) (hq : H q = none) : Drw (L2.upd H q o) st c ns := by
  obtain ⟨hc, n, v, b, h0, hs⟩ := h
  exact ⟨by rw [upd_ne (ne_of_none hc hq)]; exact hc, n, v, b, h0, by rw [upd_ne (ne_of_none hs hq)]; exact hs⟩
theorem Drw.but {H H' : Hp} {st c : Addr} {ns : List Int} (h : Drw H st c ns) {n v : Int} {b : Bool} (h0 : 0 ≤ n) (hb : But st H H') (hs : H' st = some (.lst [.ref c, .int n, .int v, .bl b])) : Drw H' st c ns :=
  ⟨hb _ _ h.1 h.ne, n, v, b, h0, hs⟩
/-- a test whose both answers leave the heap as it is -/
theorem tt_any {c : TT} {σ : L2.St} {H : Hp} {K : Bool → Hp → Prop} (h : ∀ K' : Bool → Hp → Prop, K' true H → K' false H → c σ H K') (hT : K true H) (hF : K false H) : c σ H K := h K hT hF
theorem ite3 {c : Prop} [Decidable c] {K : Bool → Hp → Prop} {H : Hp} (a : c → K true H) (b : ¬ c → K false H) : K (decide c) H := by
  by_cases h : c
  · rw [decide_eq_true h]
    exact a h
  · rw [decide_eq_false h]
    exact b h
end My

set_option Elab.async false
set_option maxRecDepth 100000
set_option maxHeartbeats 4000000
set_option linter.all false
/-! Data that stands in the heap, apart from one object m that may change. -/
namespace My
open PySem PySem.Spec PyProof.Rows L2
mutual
inductive At (m : Addr) (H : Hp) : V → PyData → Prop
  | non : At m H .non .none
  | bl (b : Bool) : At m H (.bl b) (.bool b)
  | int (i : Int) : At m H (.int i) (.int i)
  | str (x : Str) : At m H (.str x) (.str x)
  | lst {a : Addr} {xs : List V} {ds : List PyData} : a ≠ m → H a = some (.lst xs) → AtAll m H xs ds → At m H (.ref a) (.list ds)
  | tup {a : Addr} {xs : List V} {ds : List PyData} : a ≠ m → H a = some (.tup xs) → AtAll m H xs ds → At m H (.ref a) (.tuple ds)
inductive AtAll (m : Addr) (H : Hp) : List V → List PyData → Prop
  | nil : AtAll m H [] []
  | cons {v : V} {vs : List V} {d : PyData} {ds : List PyData} : At m H v d → AtAll m H vs ds → AtAll m H (v :: vs) (d :: ds)
end
mutual
theorem At.mono {m : Addr} {H H' : Hp} (b : But m H H') : ∀ {v : V} {d : PyData}, At m H v d → At m H' v d
  | _, _, .non => .non
  | _, _, .bl k => .bl k
  | _, _, .int i => .int i
  | _, _, .str x => .str x
  | _, _, .lst n h q => .lst n (b _ _ h n) (AtAll.mono b q)
  | _, _, .tup n h q => .tup n (b _ _ h n) (AtAll.mono b q)
theorem AtAll.mono {m : Addr} {H H' : Hp} (b : But m H H') : ∀ {vs : List V} {ds : List PyData}, AtAll m H vs ds → AtAll m H' vs ds
  | _, _, .nil => .nil
  | _, _, .cons h q => .cons (At.mono b h) (AtAll.mono b q)
end
mutual
theorem At.dp {K : PySem.W.Frag} {m : Addr} {H : Hp} : ∀ {v : V} {d : PyData}, At m H v d → Dp K H v d
  | _, _, .non => .non
  | _, _, .bl k => .bl k
  | _, _, .int i => .int i
  | _, _, .str x => .str x
  | _, _, .lst n h q => .lst (SqL.of h) (AtAll.dp q)
  | _, _, .tup n h q => .tup (SqT.of h) (AtAll.dp q)
theorem AtAll.dp {K : PySem.W.Frag} {m : Addr} {H : Hp} : ∀ {vs : List V} {ds : List PyData}, AtAll m H vs ds → DpAll K H vs ds
  | _, _, .nil => .nil
  | _, _, .cons h q => .cons (At.dp h) (AtAll.dp q)
end
theorem Same.but {m : Addr} {H H' : Hp} (s : Same H H') : But m H H' := fun b o e _ => s b o e
theorem AtAll.length {m : Addr} {H : Hp} : ∀ {vs : List V} {ds : List PyData}, AtAll m H vs ds → vs.length = ds.length
  | _, _, .nil => rfl
  | _, _, .cons _ q => by rw [List.length_cons, List.length_cons, AtAll.length q]
theorem AtAll.get {m : Addr} {H : Hp} : ∀ {vs : List V} {ds : List PyData} {i : Nat} {v : V}, AtAll m H vs ds → vs[i]? = some v → ∃ d, ds[i]? = some d ∧ At m H v d
  | _, _, _, _, .nil, e => by simp at e
  | _, _, 0, _, .cons h _, e => by
    simp at e
    subst e
    exact ⟨_, rfl, h⟩
  | _, _, i + 1, v, .cons _ q, e => by
    obtain ⟨d, h1, h2⟩ := AtAll.get (i := i) (v := v) q (by simpa using e)
    exact ⟨d, by simpa using h1, h2⟩
theorem AtAll.append {m : Addr} {H : Hp} {v : V} {d : PyData} : ∀ {vs : List V} {ds : List PyData}, AtAll m H vs ds → At m H v d → AtAll m H (vs ++ [v]) (ds ++ [d])
  | _, _, .nil, h => .cons h .nil
  | _, _, .cons h q, e => .cons h (AtAll.append q e)
theorem AtAll.bools {m : Addr} {H : Hp} : ∀ (bs : List Bool), AtAll m H (bs.map V.bl) (bs.map PyData.bool)
  | [] => .nil
  | b :: r => .cons (.bl b) (AtAll.bools r)
theorem AtAll.mem {m : Addr} {H : Hp} {vs : List V} {ds : List PyData} {v : V} (h : AtAll m H vs ds) (hv : v ∈ vs) : ∃ d, d ∈ ds ∧ At m H v d := by
  obtain ⟨i, hi, e⟩ := List.getElem_of_mem hv
  obtain ⟨d, h1, h2⟩ := h.get (i := i) (v := v) (by rw [List.getElem?_eq_getElem hi, e])
  exact ⟨d, List.mem_of_getElem? h1, h2⟩
/-- what type(x) is called -/
def tyS : PyData → String
  | .none => "NoneType" | .bool _ => "bool" | .int _ => "int" | .str _ => "str" | .list _ => "list" | .tuple _ => "tuple" | .dict _ => "dict"
theorem At.ty {K : PySem.W.Frag} {m : Addr} {H : Hp} {v : V} {d : PyData} (h : At m H v d) : TyX K H v (.type (tyS d)) := by
  cases h with
  | non => exact .base .non
  | bl b => exact .base (.bl b)
  | int i => exact .base (.int i)
  | str x => exact .base (.str x)
  | lst n e q => exact .base (.lst e)
  | tup n e q => exact .base (.tup e)
/-- nested at most n deep -/
inductive Lev : Nat → PyData → Prop
  | non (n : Nat) : Lev n .none
  | bl (n : Nat) (b : Bool) : Lev n (.bool b)
  | int (n : Nat) (i : Int) : Lev n (.int i)
  | str (n : Nat) (x : Str) : Lev n (.str x)
  | lst {n : Nat} {ds : List PyData} : ds.length ≤ 1000000 → (∀ x, x ∈ ds → Lev n x) → Lev (n + 1) (.list ds)
  | tup {n : Nat} {ds : List PyData} : ds.length ≤ 1000000 → (∀ x, x ∈ ds → Lev n x) → Lev (n + 1) (.tuple ds)
theorem walk_zipT {K : PySem.W.Frag} {a b : Addr} {xs ys : List V} (hn : xs.length = ys.length) : Walk (RZ.ItzT K a b) xs.length (fun H => SqT K H a xs ∧ SqT K H b ys) (YPair (fun i => xs[i]?) (fun i => ys[i]?)) :=
  ⟨fun i H hi h => ⟨xs, ys, xs[i], ys[i]'(by omega), h.1, h.2, by simp [hi], by simp [show i < ys.length by omega]⟩, fun H h => ⟨xs, ys, h.1, h.2, .inl (Nat.le_refl _)⟩, fun i H v H' hi h y => by
    obtain ⟨T, x, y, e, f, g, q, r⟩ := y
    exact ⟨T, x, y, e, f, g, q xs h.1, r ys h.2⟩⟩
theorem walk_zipL {K : PySem.W.Frag} {a b : Addr} {xs ys : List V} (hn : xs.length = ys.length) : Walk (Itz K a b) xs.length (fun H => SqL K H a xs ∧ SqL K H b ys) (YPair (fun i => xs[i]?) (fun i => ys[i]?)) :=
  ⟨fun i H hi h => ⟨xs, ys, xs[i], ys[i]'(by omega), h.1, h.2, by simp [hi], by simp [show i < ys.length by omega]⟩, fun H h => ⟨xs, ys, h.1, h.2, .inl (Nat.le_refl _)⟩, fun i H v H' hi h y => by
    obtain ⟨T, x, y, e, f, g, q, r⟩ := y
    exact ⟨T, x, y, e, f, g, q xs h.1, r ys h.2⟩⟩
/-- what _law_same promises: two things that are the same data are told so -/
def spSame (n : Nat) : Sp := fun vs H Q _ => ∃ (m : Addr) (x y : V) (d : PyData) (o : HO), vs = [x, y] ∧ H m = some o ∧ At m H x d ∧ At m H y d ∧ Lev n d ∧ ∀ H', Same H H' → Q (.bl true) H'
theorem But.sqL {K : PySem.W.Frag} {p a : Addr} {H H' : Hp} {xs : List V} (b : But p H H') (n : a ≠ p) (h : SqL K H a xs) : SqL K H' a xs := by
  rcases h with h | h
  · rcases h with h | ⟨o, h⟩
    · exact .inl (.inl (b _ _ h n))
    · exact .inl (.inr ⟨o, b _ _ h n⟩)
  · exact .inr h
theorem But.sqT {K : PySem.W.Frag} {p a : Addr} {H H' : Hp} {xs : List V} (b : But p H H') (n : a ≠ p) (h : SqT K H a xs) : SqT K H' a xs := by
  rcases h with h | h
  · rcases h with h | ⟨o, h⟩
    · exact .inl (.inl (b _ _ h n))
    · exact .inl (.inr ⟨o, b _ _ h n⟩)
  · exact .inr h
def kitAnyB (a : String) : List String → Option Bool
  | [] => some false
  | c :: cs => match kitB a c with
    | some true => some true
    | some false => kitAnyB a cs
    | none => none
theorem kit_any {K : PySem.W.Frag} {a : String} : ∀ {cs : List String} {b : Bool}, kitAnyB a cs = some b → PySem.W.kitAny K (.type a) (cs.map Value.type) = some b
  | [], b, h => by
    cases h
    exact kitAny_nil
  | c :: cs, b, h => by
    unfold kitAnyB at h
    cases e : kitB a c with
    | none =>
      rw [e] at h
      cases h
    | some r =>
      rw [e] at h
      cases r with
      | true =>
        cases h
        exact kitAny_cons (kit_ty e) (fun z => by cases z) (fun _ => rfl)
      | false => exact kitAny_cons (kit_ty e) (fun _ => kit_any h) (fun z => by cases z)
theorem cls_all : ∀ (cs : List String), Paired ClsV (cs.map V.ty) (cs.map Value.type)
  | [] => .nil
  | c :: cs => .cons (.ty c) (cls_all cs)
theorem k_NoneType_list : kitB "NoneType" "list" = some false := by decide +kernel
theorem k_NoneType_tuple : kitB "NoneType" "tuple" = some false := by decide +kernel
theorem k_NoneType_int : kitB "NoneType" "int" = some false := by decide +kernel
theorem k_NoneType_bool : kitB "NoneType" "bool" = some false := by decide +kernel
theorem k_NoneType_str : kitB "NoneType" "str" = some false := by decide +kernel
theorem k_NoneType_lt : kitAnyB "NoneType" ["list", "tuple"] = some false := by decide +kernel
theorem k_NoneType_bilt : kitAnyB "NoneType" ["bool", "int", "list", "tuple"] = some false := by decide +kernel
theorem k_bool_list : kitB "bool" "list" = some false := by decide +kernel
theorem k_bool_tuple : kitB "bool" "tuple" = some false := by decide +kernel
theorem k_bool_int : kitB "bool" "int" = some true := by decide +kernel
theorem k_bool_bool : kitB "bool" "bool" = some true := by decide +kernel
theorem k_bool_str : kitB "bool" "str" = some false := by decide +kernel
theorem k_bool_lt : kitAnyB "bool" ["list", "tuple"] = some false := by decide +kernel
theorem k_bool_bilt : kitAnyB "bool" ["bool", "int", "list", "tuple"] = some true := by decide +kernel
theorem k_int_list : kitB "int" "list" = some false := by decide +kernel
theorem k_int_tuple : kitB "int" "tuple" = some false := by decide +kernel
theorem k_int_int : kitB "int" "int" = some true := by decide +kernel
theorem k_int_bool : kitB "int" "bool" = some false := by decide +kernel
theorem k_int_str : kitB "int" "str" = some false := by decide +kernel
theorem k_int_lt : kitAnyB "int" ["list", "tuple"] = some false := by decide +kernel
theorem k_int_bilt : kitAnyB "int" ["bool", "int", "list", "tuple"] = some true := by decide +kernel
theorem k_str_list : kitB "str" "list" = some false := by decide +kernel
theorem k_str_tuple : kitB "str" "tuple" = some false := by decide +kernel
theorem k_str_int : kitB "str" "int" = some false := by decide +kernel
theorem k_str_bool : kitB "str" "bool" = some false := by decide +kernel
theorem k_str_str : kitB "str" "str" = some true := by decide +kernel
theorem k_str_lt : kitAnyB "str" ["list", "tuple"] = some false := by decide +kernel
theorem k_str_bilt : kitAnyB "str" ["bool", "int", "list", "tuple"] = some false := by decide +kernel
theorem k_list_list : kitB "list" "list" = some true := by decide +kernel
theorem k_list_tuple : kitB "list" "tuple" = some false := by decide +kernel
theorem k_list_int : kitB "list" "int" = some false := by decide +kernel
theorem k_list_bool : kitB "list" "bool" = some false := by decide +kernel
theorem k_list_str : kitB "list" "str" = some false := by decide +kernel
theorem k_list_lt : kitAnyB "list" ["list", "tuple"] = some true := by decide +kernel
theorem k_list_bilt : kitAnyB "list" ["bool", "int", "list", "tuple"] = some true := by decide +kernel
theorem k_tuple_list : kitB "tuple" "list" = some false := by decide +kernel
theorem k_tuple_tuple : kitB "tuple" "tuple" = some true := by decide +kernel
theorem k_tuple_int : kitB "tuple" "int" = some false := by decide +kernel
theorem k_tuple_bool : kitB "tuple" "bool" = some false := by decide +kernel
theorem k_tuple_str : kitB "tuple" "str" = some false := by decide +kernel
theorem k_tuple_lt : kitAnyB "tuple" ["list", "tuple"] = some true := by decide +kernel
theorem k_tuple_bilt : kitAnyB "tuple" ["bool", "int", "list", "tuple"] = some true := by decide +kernel
/-- isinstance(x, C) of data, as the reading asks it -/
theorem isi_of {K : PySem.W.Frag} {m : Addr} {H : Hp} {v : V} {d : PyData} {c : String} {b : Bool} {Q : VK} (h : At m H v d) (k : kitB (tyS d) c = some b) (q : Q (.bl b) H) : rIsi K [v, .ty c] H Q :=
  ⟨_, _, _, _, b, rfl, .ty c, h.ty, kit_ty k, q⟩
theorem isiT_of {K : PySem.W.Frag} {m tp : Addr} {H : Hp} {v : V} {d : PyData} {cs : List String} {b : Bool} {Q : VK} (h : At m H v d) (ht : H tp = some (.tup (cs.map V.ty))) (k : kitAnyB (tyS d) cs = some b) (q : Q (.bl b) H) : rIsiT K [v, .ref tp] H Q :=
  ⟨_, _, _, _, _, b, rfl, ht, cls_all cs, h.ty, kit_any k, q⟩
theorem small6 {n : Nat} (h : n < 1000000) : n < sizeLine := Nat.lt_trans h (by decide)
/-- an if whose test leaves the heap as it is, both ways to be shown -/
theorem if_any {c : TT} {t u : TS} {D : Ends} {σ : L2.St} {H : Hp} (h : ∀ K' : Bool → Hp → Prop, K' true H → K' false H → c σ H K') (hT : t D σ H) (hF : u D σ H) : tIfS c t u D σ H := h _ (iteT hT) (iteF hF)
theorem seq_if_any {c : TT} {t u r : TS} {D : Ends} {σ : L2.St} {H : Hp} (h : ∀ K' : Bool → Hp → Prop, K' true H → K' false H → c σ H K') (hT : t { D with nx := r D } σ H) (hF : u { D with nx := r D } σ H) : tSeq (tIfS c t u) r D σ H := h _ (iteT hT) (iteF hF)
theorem by_bool {K' : Bool → Hp → Prop} {H : Hp} (a : K' true H) (b : K' false H) : ∀ c, K' c H
  | true => a
  | false => b
end My

set_option Elab.async false
set_option maxRecDepth 100000
set_option maxHeartbeats 4000000
set_option linter.all false
/-! 'a'.m(e, ..).replace('y', 'z'): the receiver gives out a token ahead of the call. -/
namespace My
open PySem PySem.Spec PyProof.Rows L2 CwR
/-- an expression that gives out a token -/
def PE1 (X : Cx) (e : Expr) (t : TE) : Prop :=
  ∀ (pins : List (Addr × Obj)) (s : Shared) (σ : L2.St) (H : Hp) (Q : VK), Inv X pins σ H s → t σ H Q →
    wpAny (model X.prog X.w) X.A (eval e X.env) (fun v s' => 1 ≤ s'.toks ∧ EP X pins σ Q v s') X.xe s
theorem pe1_bm {X : Cx} {T id : String} {name : Str} {r : V → List V → Hp → VK → Prop} {x : Str} {j : Nat} {xp apos cpos : Pos} {e : Expr} {es : List Expr} {t : TA}
    (pa : PlainAttrs T) (slot : Slot T name id) (hty : typeOf (.builtin id) = pure (.type "method_descriptor")) (hm : MtR X id r) (ha : PA X (e :: es) t)
    (hbase : attributeBase (.Constant (.str x) j xp) name X.env (eval (.Constant (.str x) j xp) X.env) = eval (.Constant (.str x) j xp) X.env := by rfl)
    (hfew : ((backTo cpos (starEach (e :: es) X.env)).all (fun x => !x.1) && (backToKw cpos (keywordEach [] X.env)).all (fun x => x.1.isSome)
      && decide ((e :: es).length + ([] : List Keyword).length + (if ([] : List Keyword).isEmpty then 0 else 1) < 30)) = true := by rfl)
    (hline : (apos.endLine == cpos.line) = true := by rfl) (hs : starEach (e :: es) X.env = (false, eval e X.env) :: starEach es X.env := by rfl) (hplain : (backTo cpos (starEach es X.env)).any (·.1) = false := by rfl) :
    PE1 X (.Call (.Attribute (.Constant (.str x) j xp) name apos) (e :: es) [] cpos) (tBM X.K T r (tC (.str x)) t) := by
  intro pins s σ H Q I h
  refine wpAny_Call_method_late hbase hfew hline rfl (Calls.Constant_str ?_)
  have I1 := I.tok (s.toks + 1)
  obtain ⟨ty, q1⟩ := h
  obtain ⟨h1, h2⟩ := tyV_is I1 (show RelV (.str x) (Value.str x s.toks) from ⟨_, rfl⟩) ty
  refine ⟨T, id, pa, slot, hty, h1, h2, ?_⟩
  have hA := ha.run cpos pins _ σ H _ I1 q1
  rw [hs] at hA ⊢
  refine wpAny_mono (wpAny_toks_of (n := 1) (by show 1 ≤ s.toks + 1; omega) (Q := EP X pins σ Q) (E := X.xe) ?_) (fun _ _ z => z) (fun _ _ z => z.2)
  refine Calls.callWith_builtin (by show (false || (backTo cpos (starEach es X.env)).any (·.1)) = false; rw [hplain] <;> rfl) (Calls.evalArgs_plain ?_)
  exact thn hA fun us s2 ⟨vs, H2, I2, r2, q2⟩ => hm pins s2 σ H2 (.str x) vs _ us Q I2 ⟨_, rfl⟩ r2 q2
theorem pe_repl1 {X : Cx} {o : Expr} {to : TE} {y z : Str} {j k : Nat} {c0 c1 apos pos : Pos} (ho : PE1 X o to) (hyz : (y == z) = false := by decide)
    (hst : starEach [.Constant (.str y) j c0, .Constant (.str z) k c1] X.env = [(false, eval (.Constant (.str y) j c0) X.env), (false, eval (.Constant (.str z) k c1) X.env)] := by rfl)
    (hbase : attributeBase o "replace" X.env (eval o X.env) = eval o X.env := by rfl) (hline : (apos.endLine == pos.line) = true := by rfl) :
    PE X (.Call (.Attribute o "replace" apos) [.Constant (.str y) j c0, .Constant (.str z) k c1] [] pos) (tReplC to y z) := by
  refine ⟨fun pins s σ H Q I h => ?_⟩
  refine PySem.Call_method2 hbase hst hline (wpAny_mono (ho pins s σ H _ I h) (fun v s1 q => ?_) fun _ _ z => z)
  obtain ⟨hk, v', H1, I1, r1, x, e1, hb, q⟩ := q
  subst e1
  obtain ⟨tx, e2⟩ := r1
  subst e2
  refine ⟨"str", _, PySem.F.plainAttrs_str, PySem.F.slot_str_replace, PySem.F.type_str_replace, typeIs_str _ _ _, (fun _ e => nomatch e), Calls.callWith_builtin rfl (Calls.evalArgs_plain (Calls.spliced_cons ?_))⟩
  refine Calls.Constant_str (Calls.spliced_cons (Calls.Constant_str (Calls.spliced_nil ?_)))
  exact PySem.SC.replace (by show s1.toks ≠ 0; omega) (by show s1.toks + 1 ≠ 0; omega) (by show s1.toks ≠ s1.toks + 1; omega) hyz hb fun t' k => ⟨.str (Txt.replace x y z), H1, I1.tok k, ⟨t', rfl⟩, q⟩
end My

set_option Elab.async false
set_option linter.all false
/-! The plain law of k63: scanning a text sign by sign, and jumping over tokens. -/
namespace M63
open PySem PySem.Builtin PySem.Builtin.Str PySem.StrLaws TL
/-- behind the first c -/
def afterC (c : Nat) : List Nat → List Nat
  | [] => []
  | d :: r => if d = c then r else afterC c r
/-- behind the first star and slash -/
def afterE : List Nat → List Nat
  | [] => []
  | d :: r => if d = 42 ∧ r.head? = some 47 then r.tail else afterE r
theorem afterC_le (c : Nat) : ∀ t : List Nat, (afterC c t).length ≤ t.length
  | [] => Nat.le_refl _
  | d :: r => by
    unfold afterC
    split
    · simp
    · have := afterC_le c r
      simp
      omega
theorem afterE_le : ∀ t : List Nat, (afterE t).length ≤ t.length
  | [] => Nat.le_refl _
  | d :: r => by
    unfold afterE
    split
    · simp
      omega
    · have := afterE_le r
      simp
      omega
/-- the law's own look: the last sign that counts, from l on -/
def scan : List Nat → Nat → Nat
  | [], l => l
  | c :: r, l =>
    if c = 45 ∧ r.head? = some 45 then scan (afterC 10 r) l
    else if c = 47 ∧ r.head? = some 42 then scan (afterE r.tail) l
    else if c = 39 ∨ c = 34 then scan (afterC c r) c
    else scan r (if c = 32 ∨ c = 10 then l else c)
termination_by t => t.length
decreasing_by
  · have := afterC_le 10 r
    simp
    omega
  · have := afterE_le r.tail
    simp at *
    omega
  · have := afterC_le c r
    simp
    omega
  · simp
theorem scan_nil (l : Nat) : scan [] l = l := by rw [scan]
theorem scan_cons (c : Nat) (r : List Nat) (l : Nat) : scan (c :: r) l = (if c = 45 ∧ r.head? = some 45 then scan (afterC 10 r) l
    else if c = 47 ∧ r.head? = some 42 then scan (afterE r.tail) l
    else if c = 39 ∨ c = 34 then scan (afterC c r) c
    else scan r (if c = 32 ∨ c = 10 then l else c)) := by rw [scan]
theorem pre_one {c : Nat} {t : List Nat} {j : Nat} : pre [c] (t.drop j) = true ↔ t[j]? = some c := by
  unfold pre
  rw [beq_iff_eq]
  by_cases h : j < t.length
  · rw [List.drop_eq_getElem_cons h, List.getElem?_eq_getElem h]
    simp only [List.length_cons, List.length_nil, List.take_succ_cons, List.take_zero, List.cons.injEq, and_true, Option.some.injEq]
  · rw [List.drop_eq_nil_of_le (by omega), List.getElem?_eq_none (by omega)]
    simp
theorem pre_two {c d : Nat} {t : List Nat} {j : Nat} : pre [c, d] (t.drop j) = true ↔ t[j]? = some c ∧ t[j + 1]? = some d := by
  unfold pre
  rw [beq_iff_eq]
  by_cases h : j < t.length
  · rw [List.drop_eq_getElem_cons h, List.getElem?_eq_getElem h]
    by_cases h2 : j + 1 < t.length
    · rw [List.drop_eq_getElem_cons h2, List.getElem?_eq_getElem h2]
      simp only [List.length_cons, List.length_nil, List.take_succ_cons, List.take_zero, List.cons.injEq, and_true, Option.some.injEq]
    · rw [List.drop_eq_nil_of_le (by omega), List.getElem?_eq_none (by omega)]
      simp
  · rw [List.drop_eq_nil_of_le (by omega), List.getElem?_eq_none (by omega)]
    simp
theorem afterC_none {c : Nat} {t : List Nat} : ∀ (n i : Nat), t.length ≤ i + n → (∀ k, i ≤ k → pre [c] (t.drop k) = false) → afterC c (t.drop i) = []
  | 0, i, hn, h => by
    rw [List.drop_eq_nil_of_le (by omega)]
    rfl
  | n + 1, i, hn, h => by
    by_cases hi : i < t.length
    · rw [List.drop_eq_getElem_cons hi]
      unfold afterC
      have h0 := h i (Nat.le_refl _)
      rw [if_neg]
      · exact afterC_none n (i + 1) (by omega) fun k hk => h k (by omega)
      · intro e
        have : pre [c] (t.drop i) = true := pre_one.mpr (by rw [List.getElem?_eq_getElem hi, e])
        rw [h0] at this
        cases this
    · rw [List.drop_eq_nil_of_le (by omega)]
      rfl
theorem afterC_at {c : Nat} {t : List Nat} : ∀ (n i : Nat), pre [c] (t.drop (i + n)) = true → (∀ k, i ≤ k → k < i + n → pre [c] (t.drop k) = false) → afterC c (t.drop i) = t.drop (i + n + 1)
  | 0, i, hp, h => by
    have e := pre_one.mp hp
    have hi : i < t.length := by
      have := (List.getElem?_eq_some_iff.mp e).1
      omega
    have e2 := (List.getElem?_eq_some_iff.mp e).2
    rw [List.drop_eq_getElem_cons hi]
    unfold afterC
    rw [if_pos (by simpa using e2)]
  | n + 1, i, hp, h => by
    have e := pre_one.mp hp
    have hi : i < t.length := by
      have := (List.getElem?_eq_some_iff.mp e).1
      omega
    have h0 := h i (Nat.le_refl _) (by omega)
    rw [List.drop_eq_getElem_cons hi]
    unfold afterC
    rw [if_neg]
    · have q := afterC_at (c := c) (t := t) n (i + 1) (by rw [show i + 1 + n = i + (n + 1) by omega]; exact hp) fun k h1 h2 => h k (by omega) (by omega)
      rw [q]
      congr 1
      omega
    · intro e
      have : pre [c] (t.drop i) = true := pre_one.mpr (by rw [List.getElem?_eq_getElem hi, e])
      rw [h0] at this
      cases this
theorem head_drop {t : List Nat} {i : Nat} : (t.drop i).head? = t[i]? := by
  rw [List.head?_drop]
theorem afterE_none {t : List Nat} : ∀ (n i : Nat), t.length ≤ i + n → (∀ k, i ≤ k → pre [42, 47] (t.drop k) = false) → afterE (t.drop i) = []
  | 0, i, hn, h => by
    rw [List.drop_eq_nil_of_le (by omega)]
    rfl
  | n + 1, i, hn, h => by
    by_cases hi : i < t.length
    · rw [List.drop_eq_getElem_cons hi]
      unfold afterE
      have h0 := h i (Nat.le_refl _)
      rw [if_neg]
      · exact afterE_none n (i + 1) (by omega) fun k hk => h k (by omega)
      · rintro ⟨e, e2⟩
        rw [head_drop] at e2
        have : pre [42, 47] (t.drop i) = true := pre_two.mpr ⟨by rw [List.getElem?_eq_getElem hi, e], e2⟩
        rw [h0] at this
        cases this
    · rw [List.drop_eq_nil_of_le (by omega)]
      rfl
theorem afterE_at {t : List Nat} : ∀ (n i : Nat), pre [42, 47] (t.drop (i + n)) = true → (∀ k, i ≤ k → k < i + n → pre [42, 47] (t.drop k) = false) → afterE (t.drop i) = t.drop (i + n + 2)
  | 0, i, hp, h => by
    obtain ⟨e, e'⟩ := pre_two.mp hp
    have hi : i < t.length := by
      have := (List.getElem?_eq_some_iff.mp e).1
      omega
    have e2 := (List.getElem?_eq_some_iff.mp e).2
    rw [List.drop_eq_getElem_cons hi]
    unfold afterE
    rw [if_pos ⟨by simpa using e2, by rw [head_drop]; simpa using e'⟩, List.tail_drop]
  | n + 1, i, hp, h => by
    obtain ⟨e, e'⟩ := pre_two.mp hp
    have hi : i < t.length := by
      have := (List.getElem?_eq_some_iff.mp e).1
      omega
    have h0 := h i (Nat.le_refl _) (by omega)
    rw [List.drop_eq_getElem_cons hi]
    unfold afterE
    rw [if_neg]
    · have q := afterE_at (t := t) n (i + 1) (by rw [show i + 1 + n = i + (n + 1) by omega]; exact hp) fun k h1 h2 => h k (by omega) (by omega)
      rw [q]
      congr 1
      omega
    · rintro ⟨e, e2⟩
      rw [head_drop] at e2
      have : pre [42, 47] (t.drop i) = true := pre_two.mpr ⟨by rw [List.getElem?_eq_getElem hi, e], e2⟩
      rw [h0] at this
      cases this
/-! find and startswith from a place -/
theorem range_split {n lo a : Nat} {p q : List Nat} (h : List.range' lo n = p ++ a :: q) : ∀ k, lo ≤ k → k < a → k ∈ p := by
  intro k hk hka
  have hs : (p ++ a :: q).Pairwise (· < ·) := h ▸ List.pairwise_lt_range'
  have hm : a ∈ List.range' lo n := by rw [h]; simp
  have hkm : k ∈ List.range' lo n := by
    rw [List.mem_range'_1] at hm ⊢
    omega
  rw [h] at hkm
  rcases List.mem_append.mp hkm with h1 | h1
  · exact h1
  · exfalso
    rcases List.mem_cons.mp h1 with h2 | h2
    · omega
    · have := (List.pairwise_append.mp hs).2.1
      have h3 := (List.pairwise_cons.mp this).1 k h2
      omega
theorem occ_lo (x y : Str) (lo : Nat) :
    (occurrences x y lo x.length 1 = [] ∧ ∀ i, lo ≤ i → ¬ At x y x.length i) ∨ ∃ i r, occurrences x y lo x.length 1 = i :: r ∧ lo ≤ i ∧ At x y x.length i ∧ ∀ k, lo ≤ k → k < i → ¬ At x y x.length k := by
  rw [occ_eq]
  rcases occ_first x y x.length 1 (Nat.le_refl _) (List.range' lo (x.length + 1 - lo)) lo (fun i hi => (List.mem_range'_1.mp hi).1) with ⟨h0, hn⟩ | ⟨p, a, q, e, h0, ha, hn⟩
  · refine .inl ⟨by rw [h0], fun i hl hi => ?_⟩
    have h1 := hi.1
    exact hn i (List.mem_range'_1.mpr (by omega)) hi
  · have hm : a ∈ List.range' lo (x.length + 1 - lo) := by rw [e]; simp
    refine .inr ⟨a, ((forIn (List.range' lo (x.length + 1 - lo)) ((#[] : Array Nat), lo) (occBody x y x.length 1)).run.fst.toList).tail, ?_, (List.mem_range'_1.mp hm).1, ha, fun k hl hk => hn k (range_split e k hl hk)⟩
    generalize (forIn (List.range' lo (x.length + 1 - lo)) ((#[] : Array Nat), lo) (occBody x y x.length 1)).run.fst = arr at h0
    have h1 : arr.toList[0]? = some a := by simpa using h0
    cases hL : arr.toList with
    | nil =>
      rw [hL] at h1
      cases h1
    | cons b t =>
      rw [hL] at h1
      simp at h1
      rw [h1]
      rfl
theorem from_nat (n i : Nat) : fromIndex n (i : Int) = i := by
  unfold fromIndex
  rw [if_neg (by omega)]
  omega
theorem find_spec (x y : Str) (hy : tl y ≠ []) (i : Nat) :
    (Txt.find3 x y (i : Int) = -1 ∧ ∀ k, i ≤ k → pre (tl y) ((tl x).drop k) = false) ∨
    ∃ j : Nat, Txt.find3 x y (i : Int) = (j : Int) ∧ i ≤ j ∧ pre (tl y) ((tl x).drop j) = true ∧ ∀ k, i ≤ k → k < j → pre (tl y) ((tl x).drop k) = false := by
  unfold Txt.find3
  rw [from_nat]
  rcases occ_lo x y i with ⟨e, h⟩ | ⟨j, r, e, hl, ha, h⟩
  · rw [e]
    exact .inl ⟨rfl, fun k hk => no_at hy (h k hk)⟩
  · rw [e]
    exact .inr ⟨j, rfl, hl, (at_iff hy j).mp ha, fun k h1 h2 => no_at hy (h k h1 h2)⟩
theorem starts_spec (x y : Str) (hy : tl y ≠ []) (i : Nat) : Txt.startswith3 x y (i : Int) = pre (tl y) ((tl x).drop i) := by
  unfold Txt.startswith3
  rw [from_nat]
  cases h : pre (tl y) ((tl x).drop i) with
  | true =>
    obtain ⟨a, b⟩ := (at_iff hy i).mpr h
    rw [b, decide_eq_true a]
    rfl
  | false =>
    cases h2 : (decide (i + y.length ≤ x.length) && subAt x y i) with
    | false => rfl
    | true =>
      rw [Bool.and_eq_true] at h2
      have := (at_iff hy i).mp ⟨of_decide_eq_true h2.1, h2.2⟩
      rw [h] at this
      cases this
/-! steps of the look -/
def plain (c : Nat) : Bool := !(c == 45 || c == 47 || c == 39 || c == 34 || c == 32 || c == 10)
theorem drop_at {t : List Nat} {i c : Nat} (h : t[i]? = some c) : t.drop i = c :: t.drop (i + 1) := by
  obtain ⟨hi, e⟩ := List.getElem?_eq_some_iff.mp h
  rw [List.drop_eq_getElem_cons hi, e]
theorem scan_sign {t : List Nat} {i c l : Nat} (h : t[i]? = some c) (h1 : pre [45, 45] (t.drop i) = false) (h2 : pre [47, 42] (t.drop i) = false) (h3 : c ≠ 39) (h4 : c ≠ 34) (h5 : c ≠ 32) (h6 : c ≠ 10) : scan (t.drop i) l = scan (t.drop (i + 1)) c := by
  rw [drop_at h, scan_cons, if_neg, if_neg, if_neg (by omega), if_neg (by omega)]
  · rintro ⟨rfl, q⟩
    rw [head_drop] at q
    rw [pre_two.mpr ⟨h, q⟩] at h2
    cases h2
  · rintro ⟨rfl, q⟩
    rw [head_drop] at q
    rw [pre_two.mpr ⟨h, q⟩] at h1
    cases h1
theorem scan_plain {t : List Nat} {i c l : Nat} (h : t[i]? = some c) (hp : plain c = true) : scan (t.drop i) l = scan (t.drop (i + 1)) c := by
  unfold plain at hp
  simp at hp
  rw [drop_at h, scan_cons, if_neg (by omega), if_neg (by omega), if_neg (by omega), if_neg (by omega)]
theorem scan_blank {t : List Nat} {i c l : Nat} (h : t[i]? = some c) (hb : c = 32 ∨ c = 10) : scan (t.drop i) l = scan (t.drop (i + 1)) l := by
  rw [drop_at h, scan_cons, if_neg (by omega), if_neg (by omega), if_neg (by omega), if_pos hb]
theorem scan_quote {t : List Nat} {i c l : Nat} (h : t[i]? = some c) (hb : c = 39 ∨ c = 34) : scan (t.drop i) l = scan (afterC c (t.drop (i + 1))) c := by
  rw [drop_at h, scan_cons, if_neg (by omega), if_neg (by omega), if_pos hb]
theorem scan_dashes {t : List Nat} {i l : Nat} (h : pre [45, 45] (t.drop i) = true) : scan (t.drop i) l = scan (afterC 10 (t.drop i)) l := by
  obtain ⟨h1, h2⟩ := pre_two.mp h
  rw [drop_at h1, scan_cons, if_pos ⟨rfl, by rw [head_drop]; exact h2⟩]
  rfl
theorem scan_slash {t : List Nat} {i l : Nat} (h : pre [47, 42] (t.drop i) = true) : scan (t.drop i) l = scan (afterE (t.drop (i + 2))) l := by
  obtain ⟨h1, h2⟩ := pre_two.mp h
  rw [drop_at h1, scan_cons, if_neg (by omega), if_pos ⟨rfl, by rw [head_drop]; exact h2⟩, List.tail_drop]
theorem scan_run {t : List Nat} : ∀ (n i l : Nat), (∀ k, i ≤ k → k < i + (n + 1) → ∃ c, t[k]? = some c ∧ plain c = true ∧ c ≠ 59) → ∃ c, scan (t.drop i) l = scan (t.drop (i + (n + 1))) c ∧ c ≠ 59
  | 0, i, l, h => by
    obtain ⟨c, h1, h2, h3⟩ := h i (Nat.le_refl _) (by omega)
    exact ⟨c, scan_plain h1 h2, h3⟩
  | n + 1, i, l, h => by
    obtain ⟨c, h1, h2, h3⟩ := h i (Nat.le_refl _) (by omega)
    obtain ⟨d, e, hd⟩ := scan_run n (i + 1) c fun k a b => h k (by omega) (by omega)
    refine ⟨d, ?_, hd⟩
    rw [scan_plain h1 h2, e]
    congr 1
    congr 1
    omega
/-- a token from i to e; b: it is the sign ; -/
def Step (t : List Nat) (i e : Nat) (b : Prop) : Prop := i < e ∧ e ≤ t.length ∧ ∀ l, ∃ c, scan (t.drop i) l = scan (t.drop e) c ∧ (c = 59 ↔ b)
theorem Step.run {t : List Nat} {i e : Nat} {b : Prop} (hb : ¬ b) (h : i < e) (he : e ≤ t.length) (hk : ∀ k, i ≤ k → k < e → ∃ c, t[k]? = some c ∧ plain c = true ∧ c ≠ 59) : Step t i e b := by
  refine ⟨h, he, fun l => ?_⟩
  obtain ⟨c, e1, h1⟩ := scan_run (t := t) (e - i - 1) i l fun k a q => hk k a (by omega)
  rw [show i + (e - i - 1 + 1) = e by omega] at e1
  exact ⟨c, e1, iff_of_false h1 hb⟩
theorem Step.one {t : List Nat} {i c : Nat} {b : Prop} (h : t[i]? = some c) (h1 : pre [45, 45] (t.drop i) = false) (h2 : pre [47, 42] (t.drop i) = false) (h3 : c ≠ 39) (h4 : c ≠ 34) (h5 : c ≠ 32) (h6 : c ≠ 10) (hb : c = 59 ↔ b) : Step t i (i + 1) b :=
  ⟨by omega, (List.getElem?_eq_some_iff.mp h).1, fun l => ⟨c, scan_sign h h1 h2 h3 h4 h5 h6, hb⟩⟩
/-- what stands at e is no blank and no comment, or nothing stands there -/
def Clean (t : List Nat) (e : Nat) : Prop := e = t.length ∨ (pre [45, 45] (t.drop e) = false ∧ pre [47, 42] (t.drop e) = false ∧ ∀ c, t[e]? = some c → c ≠ 32 ∧ c ≠ 10)
end M63

set_option Elab.async false
set_option maxRecDepth 100000
set_option maxHeartbeats 4000000
set_option linter.all false
namespace C63
open PySem L2 My
def top (i : Nat) : Stmt := PySem.Challenge.pw_cursorhouse_k63_complete_statements.main.body.getD i (.Pass ⟨0, 0, 0, 0⟩)
abbrev sFresh : Stmt := top 22
abbrev sFill : Stmt := top 23
abbrev sTake : Stmt := top 24
abbrev sOne : Stmt := top 25
structure Tx (mg : Str → Option Value) : Prop where
  len : mg "len" = none
  int : mg "int" = none
  enumerate : mg "enumerate" = none
def spFill : Sp := fun vs H Q _ => ∃ (st c : Addr) (ns : List Int), vs = [.ref st] ∧ Drw H st c ns ∧ ns.length ≤ 63 ∧
  ∀ H', Drw H' st c ns → But st H H' → Q .non H'
section
variable {P : Program} {w : World} {K : PySem.W.Frag} {mg : Str → Option Value} {base : Heap}
theorem scFill : FnScope ["_law_state", "_law_cells", "_law_nth", "_law_seed", "_law_k", "_law_prime", "_law_far"] ["_law_state"] (defScope sFill) := ⟨rfl, rfl, rfl, by decide +kernel, rfl, by decide +kernel, by decide +kernel⟩
theorem pr_fill (D : Df K mg "_law_fill" sFill ["_law_state"]) (T : Tx mg) : Pr P w K mg base 1 "_law_fill" ["_law_state"] spFill := by
  refine D.pr scFill (fun vs H Q E h => ?_) (fun f cdv A outer s H vs Q E hr h => ?_)
  · obtain ⟨p, c, ns, rfl, _⟩ := h
    rfl
  · obtain ⟨st, c, ns, rfl, dr, hn, k⟩ := h
    have nd := scFill.nd
    have hne := dr.ne
    obtain ⟨hc, n, v, b, n0, hs⟩ := id dr
    refine ⟨_, (pss_cons (ps_par (by rfl) nd (i := 1) (j := 2) rfl rfl (by decide) rfl rfl (pa_cons (pe_ix ix_list (pv 0) pe_int (fun _ _ => rfl)) (pa_cons (pe_ix ix_list (pv 0) pe_int (fun _ _ => rfl)) pa_nil)) (by rfl))
      (pss_cons (ps_asg (pe_op op_add (pe_op op_mul pe_int (pv 2)) pe_int) (pg_name (i := 3) nd rfl (Or.inl rfl)))
      (Evl.pss_cut (ps_if (pt_cmpR op_gt (pe_callB call_len (by rfl) T.len PySem.boot_len (pa_cons (pv 1) pa_nil)) pe_int (nomark _))
        (pss_one (ps_asg (pe_op op_add (pe_op op_mul pe_int (pe_op op_fdivN (pv 2) (pe_callB call_len (by rfl) T.len PySem.boot_len (pa_cons (pv 1) pa_nil)))) (pe_ix ix_list (pv 1) (pe_op op_modN (pe_callTy call_int1 (by rfl) T.int (by decide +kernel) (pa_cons (pv 2) pa_nil)) (pe_callB call_len (by rfl) T.len PySem.boot_len (pa_cons (pv 1) pa_nil))) (fun _ _ => rfl))) (pg_name (i := 3) nd rfl (Or.inl rfl))))
        pss_nil)
      (pss_cons (ps_asg (pe_op op_add (pv 2) pe_int) (pg_sub (pv 0) pe_int set_list))
      (Evl.pss_cut (ps_asg (pe_or (pe_cmpR op_ge (pv 2) (pe_callB call_len (by rfl) T.len PySem.boot_len (pa_cons (pv 1) pa_nil)) (nomark _)) (pe_one (pe_cmpR op_lt (pv 3) (pe_op op_pow pe_int pe_int) (nomark _)))) (pg_sub (pv 0) pe_int set_list))
      (pss_cons (ps_asg (pe_op op_sub (pv 3) (pe_op op_pow pe_int pe_int)) (pg_sub (pv 0) pe_int set_list))
      (pss_one (ps_if (pt_val (pe_ix ix_list (pv 0) pe_int (fun _ _ => rfl)))
        (pss_cons (ps_asg pe_int (pg_sub (pv 0) pe_int set_list))
        (pss_one (ps_for PassesOwn.never rfl (pi_enumT (by rfl) T.enumerate (pa_cons (pe_tup (pa_cons pe_int (pa_cons pe_int (pa_cons pe_int (pa_cons pe_int (pa_cons pe_int pa_nil)))))) pa_nil)) (pg_tup rfl (pgs_cons (pg_name (i := 4) nd rfl (Or.inl rfl)) (pgs_cons (pg_name (i := 5) nd rfl (Or.inl rfl)) pgs_nil)))
          (pss_cons (ps_asg (pe_op op_modN (pe_callTy call_int1 (by rfl) T.int (by decide +kernel) (pa_cons (pe_op op_mul (pe_op op_add (pe_op op_add (pv 3) (pe_op op_mul (pe_op op_mul pe_int (pv 4)) (pv 4))) (pe_op op_mul pe_int (pv 4))) (pe_op op_add pe_int (pe_op op_mul pe_int (pv 4)))) pa_nil)) (pv 5)) (pg_name (i := 6) nd rfl (Or.inl rfl)))
          (pss_one (ps_asg (pe_op op_add (pe_op op_mul (pe_ix ix_list (pv 0) pe_int (fun _ _ => rfl)) (pv 5)) (pe_op op_modN (pe_callTy call_int1 (by rfl) T.int (by decide +kernel) (pa_cons (pe_op op_pow (pv 6) pe_int) pa_nil)) (pv 5))) (pg_sub (pv 0) pe_int set_list)))))))
        pss_nil)))))))), ?_⟩
    refine ⟨_, rfl, _, _, _, _, rfl, rfl, SqL.of hs, rfl, _, rfl, _, _, _, _, rfl, rfl, SqL.of hs, rfl, _, _, rfl, ?_⟩
    refine ⟨_, rfl, _, _, rfl, rfl, .inl ⟨by decide, by decide⟩, _, _, rfl, rfl, ?_⟩
    refine ⟨fun σ' H' => H' = H ∧ ∃ z : Int, σ' = [some (.ref st), some (.ref c), some (.int n), some (.int z), none, none, none], ?_, ?_⟩
    · refine ⟨_, rfl, _, _, rfl, .inl ⟨_, SqL.of hc, rfl⟩, _, _, rfl, rfl, _, rfl, ?_⟩
      refine ite2 (fun h0 => ?_) (fun _ => ⟨rfl, _, rfl⟩)
      have hl0 : (0 : Int) < ((ns.map V.int).length : Int) := of_decide_eq_true h0
      have hlen : (ns.map V.int).length = ns.length := List.length_map ..
      have hm0 : 0 ≤ n.fmod ((ns.map V.int).length : Int) := Int.fmod_nonneg_of_pos n hl0
      have hm1 : n.fmod ((ns.map V.int).length : Int) < ((ns.map V.int).length : Int) := Int.fmod_lt_of_pos n hl0
      obtain ⟨j, hj⟩ := Int.eq_ofNat_of_zero_le hm0
      have hjl : j < ns.length := by omega
      refine ⟨_, rfl, _, rfl, _, _, rfl, .inl ⟨_, SqL.of hc, rfl⟩, _, _, rfl, rfl, ⟨by omega, by omega⟩, _, _, rfl, rfl, .inl ⟨by decide, by decide⟩, ?_⟩
      refine ⟨_, rfl, _, rfl, .inl ⟨_, rfl, ?_⟩⟩
      refine ⟨_, rfl, _, _, rfl, .inl ⟨_, SqL.of hc, rfl⟩, _, _, rfl, rfl, by omega, ?_⟩
      refine ⟨_, _, _, .int ns[j], rfl, rfl, SqL.of hc, ?_, _, _, rfl, rfl, rfl, _, rfl⟩
      rw [hj]
      exact atI_nat (by simp [hjl])
    · rintro σ' H' ⟨rfl, z, rfl⟩
      -- state[1] = nth + 1; state[3] = ..
      refine ⟨_, rfl, _, _, rfl, rfl, _, rfl, _, _, _, _, rfl, rfl, hs, rfl, ?_⟩
      refine ⟨fun σ' H1 => σ' = [some (.ref st), some (.ref c), some (.int n), some (.int z), none, none, none] ∧ ∃ b2, H1 = upd H' st (.lst [.ref c, .int (n + 1), .int v, .bl b2]), ?_, ?_⟩
      · refine ⟨_, rfl, _, rfl, _, _, rfl, .inl ⟨_, SqL.of (Eq.trans (upd_ne hne) hc), rfl⟩, _, _, rfl, rfl, _, rfl, ?_⟩
        refine ite2 (fun h0 => ?_) (fun _ => ?_)
        · exact ⟨_, rfl, _, _, _, _, rfl, rfl, upd_same, rfl, rfl, _, upd_upd⟩
        · refine ⟨_, rfl, _, _, rfl, rfl, ⟨by decide, by decide, by decide⟩, _, _, rfl, rfl, ?_⟩
          exact ⟨_, rfl, _, _, _, _, rfl, rfl, upd_same, rfl, rfl, _, upd_upd⟩
      · rintro σ' H1 ⟨rfl, b2, rfl⟩
        refine ⟨_, rfl, _, _, rfl, rfl, ⟨by decide, by decide, by decide⟩, _, _, rfl, rfl, _, rfl, _, _, _, _, rfl, rfl, upd_same, rfl, ?_⟩
        rw [upd_upd]
        refine ⟨_, rfl, _, _, _, _, rfl, rfl, SqL.of upd_same, rfl, _, rfl, ?_⟩
        refine ite2 (fun h0 => ?_) (fun _ => ?_)
        · refine ⟨_, rfl, _, _, _, _, rfl, rfl, upd_same, rfl, ?_⟩
          rw [upd_upd]
          refine ⟨by decide, fun tp htp => ⟨_, _, rfl, SqT.of upd_same, ?_⟩⟩
          have dr2 := (dr.put (n := n + 1) (v := 0) (b := b2) (by omega)).new (o := .tup [.int 2147483647, .int 2147483629, .int 2147483587, .int 2147483579, .int 2147483563]) htp
          refine for_it (walk_enumT (xs := [.int 2147483647, .int 2147483629, .int 2147483587, .int 2147483579, .int 2147483563])) (fun i σ H2 => (∃ o4 o5 o6, σ = [some (.ref st), some (.ref c), some (.int n), some (.int z), o4, o5, o6]) ∧ Drw H2 st c ns ∧ But st H' H2 ∧ H2 tp = some (.tup [.int 2147483647, .int 2147483629, .int 2147483587, .int 2147483579, .int 2147483563]))
            ⟨⟨_, _, _, rfl⟩, dr2, (But.refl _ _).upd.new htp, upd_same⟩ (fun i σ H2 _ q => SqT.of q.2.2.2) ?_ ?_
          · rintro i x σ H2 H3 hi ⟨⟨o4, o5, o6, rfl⟩, d2, b2', ht⟩ ⟨T2, i', pr, rfl, hT2, rfl, ei, ep⟩
            obtain rfl : V.int (i : Nat) = i' := Option.some.inj ei
            have hi5 : i < 5 := hi
            obtain ⟨q, rfl, q0, q1⟩ : ∃ q : Int, pr = .int q ∧ 0 < q ∧ q < 4294967296 := by
              have hh : i = 0 ∨ i = 1 ∨ i = 2 ∨ i = 3 ∨ i = 4 := by omega
              rcases hh with rfl | rfl | rfl | rfl | rfl <;> exact ⟨_, (Option.some.inj ep).symm, by decide, by decide⟩
            have d3 := d2.new (o := .tup [.int (i : Nat), .int q]) hT2
            obtain ⟨hc3, n3, v3, b3, n30, hs3⟩ := id d3
            have hst : st ≠ tp := ne_of d2.2.choose_spec.choose_spec.choose_spec.2 ht (by intro z; cases z)
            refine ⟨_, _, rfl, SqT.of upd_same, rfl, _, _, rfl, _, _, rfl, rfl, ?_⟩
            have mI : (-18446744073709551616 : Int) < (i : Int) ∧ (i : Int) < 18446744073709551616 := ⟨by omega, by omega⟩
            refine ⟨_, rfl, _, rfl, _, _, rfl, rfl, .inr mI, _, rfl, _, _, rfl, rfl, .inr mI, _, _, rfl, rfl, _, rfl, _, _, rfl, rfl, .inr mI, _, _, rfl, rfl, _, rfl, _, _, rfl, rfl, .inr mI, _, _, rfl, rfl, _, _, rfl, rfl, .inr ⟨by omega, by omega⟩, .inl ⟨_, rfl, ?_⟩⟩
            refine ⟨_, rfl, _, _, rfl, rfl, by omega, ?_⟩
            have pB : ∀ x : Int, (x.fmod q).natAbs < 2 ^ 64 := fun x => by
              have f0 := Int.fmod_nonneg_of_pos x q0
              have f1 := Int.fmod_lt_of_pos x q0
              omega
            refine ⟨_, rfl, _, _, _, _, rfl, rfl, SqL.of hs3, rfl, _, rfl, _, _, rfl, rfl, .inr ⟨by omega, by omega⟩, _, rfl, _, _, rfl, rfl, ⟨by decide, by decide, pB _⟩, .inl ⟨_, rfl, ?_⟩⟩
            refine ⟨_, rfl, _, _, rfl, rfl, by omega, _, _, rfl, rfl, _, rfl, _, _, _, _, rfl, rfl, hs3, rfl, ?_⟩
            exact ⟨⟨_, _, _, rfl⟩, d3.put n30, (b2'.new hT2).upd, by rw [upd_ne hst.symm, upd_ne (ne_of_none ht hT2)]; exact ht⟩
          · rintro σ H2 ⟨⟨o4, o5, o6, rfl⟩, d2, b2', ht⟩
            exact k _ d2 b2'
        · exact k _ (dr.put (by omega)) (But.refl _ _).upd
def spTake : Sp := fun vs H Q _ => ∃ (st c : Addr) (ns : List Int) (m : Int), vs = [.ref st, .int m] ∧ Drw H st c ns ∧ ns.length ≤ 63 ∧ 0 < m ∧ m ≤ 10000 ∧
  ∀ (d : Int) (H' : Hp), 0 ≤ d → d < m → Drw H' st c ns → But st H H' → Q (.int d) H'
theorem scTake : FnScope ["_law_state", "_law_many", "_law_turns", "_law_digit"] ["_law_state", "_law_many"] (defScope sTake) := ⟨rfl, rfl, rfl, by decide +kernel, rfl, by decide +kernel, by decide +kernel⟩
theorem pr_take (D : Df K mg "_law_take" sTake ["_law_state", "_law_many"]) (T : Tx mg) (PF : Pr P w K mg base 1 "_law_fill" ["_law_state"] spFill) : Pr P w K mg base 2 "_law_take" ["_law_state", "_law_many"] spTake := by
  refine D.pr scTake (fun vs H Q E h => ?_) (fun f cdv A outer s H vs Q E hr h => ?_)
  · obtain ⟨p, c, ns, m, rfl, _⟩ := h
    rfl
  · obtain ⟨st, c, ns, m, rfl, dr, hn, m0, m1, k⟩ := h
    have nd := scTake.nd
    refine ⟨_, (pss_cons (ps_asg pe_int (pg_name (i := 2) nd rfl (Or.inl rfl)))
      (Evl.pss_cut (ps_while PassesOwn.never (PW.pt (pw_and (pt_cmpR op_lt (pv 2) pe_int (nomark _)) (pw_and1 (PW.pt (pw_or (pt_cmpR op_eq (pe_ix ix_list (pv 0) pe_int (fun _ _ => rfl)) pe_int (nomark _)) (pw_or1 (PW.pt (pw_and (pt_val (pe_ix ix_list (pv 0) pe_int (fun _ _ => rfl))) (pw_and1 (pt_cmpR op_lt (pe_ix ix_list (pv 0) pe_int (fun _ _ => rfl)) (pe_op op_mul (pv 1) pe_int) (nomark _)))))))))))
        (pss_cons (ps_expr (pe_callP PF hr (by rfl) (pa_cons (pv 0) pa_nil)))
        (pss_cons (ps_aug (i := 2) nd rfl (Or.inl rfl) pe_int ip_add)
        (pss_one (ps_if (PW.pt (pw_and (pt_val (pe_ix ix_list (pv 0) pe_int (fun _ _ => rfl))) (pw_and1 (pt_cmpR op_lt (pe_ix ix_list (pv 0) pe_int (fun _ _ => rfl)) (pe_op op_mul (pv 1) pe_int) (nomark _)))))
          (pss_one (ps_asg (pe_op op_add (pe_ix ix_list (pv 0) pe_int (fun _ _ => rfl)) (pe_op op_mul (pe_op op_mul (pv 1) pe_int) (pe_op op_add pe_int (pe_op op_modN (pe_callTy call_int1 (by rfl) T.int (by decide +kernel) (pa_cons (pe_ix ix_list (pv 0) pe_int (fun _ _ => rfl)) pa_nil)) pe_int)))) (pg_sub (pv 0) pe_int set_list)))
          pss_nil)))))
      (pss_cons (ps_asg (pe_op op_modN (pe_callTy call_int1 (by rfl) T.int (by decide +kernel) (pa_cons (pe_ix ix_list (pv 0) pe_int (fun _ _ => rfl)) pa_nil)) (pv 1)) (pg_name (i := 3) nd rfl (Or.inl rfl)))
      (pss_cons (ps_asg (pe_op op_fdivN (pe_ix ix_list (pv 0) pe_int (fun _ _ => rfl)) (pv 1)) (pg_sub (pv 0) pe_int set_list))
      (pss_one (ps_ret (pv 3))))))), ?_⟩
    refine ⟨fun σ' H1 => ∃ (t : Int) (o3 : Option V), σ' = [some (.ref st), some (.int m), some (.int t), o3] ∧ Drw H1 st c ns ∧ But st H H1, ?_, ?_⟩
    · refine ⟨fun j σ H1 => ∃ (t : Int) (o3 : Option V), σ = [some (.ref st), some (.int m), some (.int t), o3] ∧ 0 ≤ t ∧ (j : Int) = 64 - t ∧ Drw H1 st c ns ∧ But st H H1, ⟨64, 0, _, rfl, by decide, rfl, dr, But.refl _ _⟩, ?_⟩
      rintro j σ H1 ⟨t, o3, rfl, t0, hj, d1, b1⟩
      obtain ⟨hc, n, v, b, n0, hs⟩ := id d1
      refine ⟨_, rfl, _, _, rfl, rfl, _, rfl, ?_⟩
      refine ite2 (fun ht => ?_) (fun _ => ?_)
      · have ht' : t < 64 := of_decide_eq_true ht
        refine tt_any (fun K' kT kF => ?_) ?_ ?_
        · refine ⟨_, rfl, _, _, _, _, rfl, rfl, SqL.of hs, rfl, rfl, _, rfl, ?_⟩
          refine ite2 (fun _ => kT) (fun _ => ?_)
          refine ⟨_, rfl, _, _, _, _, rfl, rfl, SqL.of hs, rfl, _, rfl, ?_⟩
          refine ite2 (fun _ => ?_) (fun _ => kF)
          refine ⟨_, rfl, _, _, _, _, rfl, rfl, SqL.of hs, rfl, _, rfl, _, _, rfl, rfl, .inr ⟨by decide, by decide⟩, _, _, rfl, rfl, _, rfl, ?_⟩
          exact ite3 (fun _ => kT) (fun _ => kF)
        · refine iteT ⟨fun σ' H2 => ∃ o3', σ' = [some (.ref st), some (.int m), some (.int (t + 1)), o3'] ∧ Drw H2 st c ns ∧ But st H H2, fun σ' H2 ⟨o3', e, d2, b2⟩ => ⟨j - 1, by omega, t + 1, o3', e, by omega, by omega, d2, b2⟩, ?_⟩
          refine ⟨_, rfl, st, c, ns, rfl, d1, hn, fun H2 d2 b2 => ?_⟩
          obtain ⟨hc2, n2, v2, w2, n20, hs2⟩ := id d2
          refine ⟨_, rfl, _, _, rfl, rfl, ?_⟩
          dsimp only
          unfold tIfS
          refine tt_any (fun K' kT kF => ?_) ?_ ?_
          · refine ⟨_, rfl, _, _, _, _, rfl, rfl, SqL.of hs2, rfl, _, rfl, ?_⟩
            refine ite2 (fun _ => ?_) (fun _ => kF)
            refine ⟨_, rfl, _, _, _, _, rfl, rfl, SqL.of hs2, rfl, _, rfl, _, _, rfl, rfl, .inr ⟨by decide, by decide⟩, _, _, rfl, rfl, _, rfl, ?_⟩
            exact ite3 (fun _ => kT) (fun _ => kF)
          · refine iteT ?_
            refine ⟨_, rfl, _, _, _, _, rfl, rfl, SqL.of hs2, rfl, _, rfl, _, _, rfl, rfl, .inr ⟨by decide, by decide⟩, ?_⟩
            refine ⟨_, rfl, _, _, _, _, rfl, rfl, SqL.of hs2, rfl, .inl ⟨_, rfl, ?_⟩⟩
            refine ⟨_, _, rfl, rfl, (by show (4093 : Int) ≠ 0; decide), _, _, rfl, rfl, _, _, rfl, rfl, .inl ⟨by omega, by omega⟩, _, _, rfl, rfl, _, rfl, _, _, _, _, rfl, rfl, hs2, rfl, ?_⟩
            exact ⟨_, rfl, d2.put n20, (b1.trans b2).upd⟩
          · refine iteF ?_
            exact ⟨_, rfl, d2, b1.trans b2⟩
        · exact iteF ⟨_, _, rfl, d1, b1⟩
      · exact iteF ⟨_, _, rfl, d1, b1⟩
    · rintro σ' H1 ⟨t, o3, rfl, d1, b1⟩
      obtain ⟨hc, n, v, b, n0, hs⟩ := id d1
      refine ⟨_, rfl, _, _, _, _, rfl, rfl, SqL.of hs, rfl, .inl ⟨_, rfl, ?_⟩⟩
      refine ⟨_, rfl, _, _, rfl, rfl, by omega, ?_⟩
      refine ⟨_, rfl, _, _, _, _, rfl, rfl, SqL.of hs, rfl, _, rfl, _, _, rfl, rfl, ⟨by omega, by omega⟩, _, rfl, _, _, _, _, rfl, rfl, hs, rfl, ?_⟩
      exact ⟨_, rfl, k _ _ (Int.fmod_nonneg_of_pos _ m0) (Int.fmod_lt_of_pos _ m0) (d1.put n0) b1.upd⟩
/-- one of the things of a list or tuple -/
def spOne (K : PySem.W.Frag) : Sp := fun vs H Q _ => ∃ (st c a : Addr) (ns : List Int) (xs : List V), vs = [.ref st, .ref a] ∧ Drw H st c ns ∧ ns.length ≤ 63 ∧ a ≠ st ∧ (SqL K H a xs ∨ SqT K H a xs) ∧ 0 < xs.length ∧ xs.length ≤ 10000 ∧
  ∀ (x : V) (H' : Hp), x ∈ xs → Drw H' st c ns → But st H H' → Q x H'
theorem scOne : FnScope ["_law_state", "_law_things"] ["_law_state", "_law_things"] (defScope sOne) := ⟨rfl, rfl, rfl, by decide +kernel, rfl, by decide +kernel, by decide +kernel⟩
theorem pr_one (D : Df K mg "_law_one" sOne ["_law_state", "_law_things"]) (T : Tx mg) (PT : Pr P w K mg base 2 "_law_take" ["_law_state", "_law_many"] spTake) : Pr P w K mg base 3 "_law_one" ["_law_state", "_law_things"] (spOne K) := by
  refine D.pr scOne (fun vs H Q E h => ?_) (fun f cdv A outer s H vs Q E hr h => ?_)
  · obtain ⟨p, c, a, ns, xs, rfl, _⟩ := h
    rfl
  · obtain ⟨st, c, a, ns, xs, rfl, dr, hn, hne, hx, x0, x1, k⟩ := h
    refine ⟨_, (pss_one (ps_ret (pe_ix ix_seq (pv 1) (pe_callP PT hr (by rfl) (pa_cons (pv 0) (pa_cons (pe_callB call_len (by rfl) T.len PySem.boot_len (pa_cons (pv 1) pa_nil)) pa_nil))) (fun _ _ => rfl)))), ?_⟩
    refine ⟨_, rfl, _, rfl, _, rfl, _, xs.length, rfl, ?_, ?_⟩
    · rcases hx with h | h
      · exact .inl ⟨_, h, rfl⟩
      · exact .inr ⟨_, h, rfl⟩
    · refine ⟨st, c, ns, _, rfl, dr, hn, by omega, by omega, fun d H' d0 d1 dr' bt => ?_⟩
      obtain ⟨j, rfl⟩ := Int.eq_ofNat_of_zero_le d0
      have hj : j < xs.length := by omega
      rcases hx with h | h
      · exact .inl ⟨_, _, _, _, rfl, rfl, My.But.sqL bt hne h, atI_nat (List.getElem?_eq_getElem hj), k _ _ (List.getElem_mem hj) dr' bt⟩
      · exact .inr (.inl ⟨_, _, _, _, rfl, rfl, My.But.sqT bt hne h, atI_nat (List.getElem?_eq_getElem hj), k _ _ (List.getElem_mem hj) dr' bt⟩)
def spFresh (K : PySem.W.Frag) : Sp := fun vs H Q _ => ∃ (a : Addr) (ns : List Int), vs = [.ref a] ∧ SqL K H a (ns.map V.int) ∧ ns.length ≤ 63 ∧
  ∀ (st c : Addr) (H' : Hp), H st = none → H c = none → Drw H' st c ns → Same H H' → Q (.ref st) H'
theorem scFresh : FnScope ["_law_script"] ["_law_script"] (defScope sFresh) := ⟨rfl, rfl, rfl, by decide +kernel, rfl, by decide +kernel, by decide +kernel⟩
theorem pr_fresh (D : Df K mg "_law_fresh" sFresh ["_law_script"]) : Pr P w K mg base 1 "_law_fresh" ["_law_script"] (spFresh K) := by
  refine D.pr scFresh (fun vs H Q E h => ?_) (fun f cdv A outer s H vs Q E hr h => ?_)
  · obtain ⟨a, ns, rfl, _⟩ := h
    rfl
  · obtain ⟨a, ns, rfl, ha, hn, k⟩ := h
    refine ⟨_, (pss_one (ps_ret (pe_lst (pa_cons (pe_slice sl_list (pv 0) po_none (po_some pe_int)) (pa_cons pe_int (pa_cons pe_int (pa_cons pe_bl pa_nil))))))), ?_⟩
    refine ⟨_, rfl, _, rfl, _, _, rfl, ha, fun c hc => ⟨(by show 4 ≤ sizeLine; decide), fun st hst => ?_⟩⟩
    have e : cutV (ns.map V.int) none (some 63) = ns.map V.int := by
      have h1 : HT.sIx (ns.map V.int).length 0 none = 0 := rfl
      have h2 : (ns.map V.int).length ≤ HT.sIx (ns.map V.int).length (ns.map V.int).length (some 63) := by
        rw [List.length_map]
        show ns.length ≤ HT.sIx ns.length ns.length (some 63)
        unfold HT.sIx
        simp
        omega
      unfold cutV
      rw [h1, List.drop_zero, Nat.sub_zero, List.take_of_length_le h2]
    have hst0 : H st = none := by
      by_cases q : st = c
      · rw [q, upd_same] at hst
        cases hst
      · rw [upd_ne q] at hst
        exact hst
    refine k st c _ hst0 hc ⟨?_, 0, 0, false, by decide, upd_same⟩ fun b o hb => ?_
    · rw [upd_ne (ne_of_none upd_same hst), upd_same, e]
    · rw [upd_ne (ne_of_none hb hst0), upd_ne (ne_of_none hb hc)]
      exact hb
end
end C63

set_option Elab.async false
set_option maxRecDepth 100000
set_option maxHeartbeats 4000000
set_option linter.all false
namespace C63
open PySem L2 My
abbrev sSame : Stmt := top 26
structure Ty (mg : Str → Option Value) : Prop where
  len : mg "len" = none
  int : mg "int" = none
  bool : mg "bool" = none
  list : mg "list" = none
  tuple : mg "tuple" = none
  isinstance : mg "isinstance" = none
  all : mg "all" = none
  zip : mg "zip" = none
def spS : Nat → Sp
  | 0 => fun _ _ _ _ => False
  | n + 1 => spSame n
section
variable {P : Program} {w : World} {K : PySem.W.Frag} {mg : Str → Option Value} {base : Heap}
abbrev nSame : List Str := ["_law_found", "_law_due", "_law_one_here", "_law_two"]
theorem scSame : FnScope nSame ["_law_found", "_law_due"] (defScope sSame) := ⟨rfl, rfl, rfl, by decide +kernel, rfl, by decide +kernel, by decide +kernel⟩
theorem step_same {n : Nat} (D : Df K mg "_law_same" sSame ["_law_found", "_law_due"]) (T : Ty mg) (PS : Pr P w K mg base n "_law_same" ["_law_found", "_law_due"] (spS n)) : Pr P w K mg base (n + 1) "_law_same" ["_law_found", "_law_due"] (spSame n) := by
  refine D.pr scSame (fun vs H Q E h => ?_) (fun f cdv A outer s H vs Q E hr h => ?_)
  · obtain ⟨m, x, y, d, o, rfl, _⟩ := h
    rfl
  · obtain ⟨m, x, y, d, o, rfl, hm, hx, hy, lv, k⟩ := h
    have nd := scSame.nd
    refine ⟨_, (pss_cons (ps_if (pt_val (pe_callB call_isiT (by rfl) T.isinstance (by decide +kernel) (pa_cons (pv 1) (pa_cons (pe_tup (pa_cons (pe_bltn (v := .ty "list") (by rfl) T.list (by decide +kernel) rfl) (pa_cons (pe_bltn (v := .ty "tuple") (by rfl) T.tuple (by decide +kernel) rfl) pa_nil))) pa_nil))))
        (pss_cons (ps_if (PW.pt (pw_or (pt_cmpR op_ne (pe_callB call_isi (by rfl) T.isinstance (by decide +kernel) (pa_cons (pv 0) (pa_cons (pe_bltn (v := .ty "list") (by rfl) T.list (by decide +kernel) rfl) pa_nil))) (pe_callB call_isi (by rfl) T.isinstance (by decide +kernel) (pa_cons (pv 1) (pa_cons (pe_bltn (v := .ty "list") (by rfl) T.list (by decide +kernel) rfl) pa_nil))) (nomark _)) (pw_or1 (pt_cmpR op_ne (pe_callB call_isi (by rfl) T.isinstance (by decide +kernel) (pa_cons (pv 0) (pa_cons (pe_bltn (v := .ty "tuple") (by rfl) T.tuple (by decide +kernel) rfl) pa_nil))) (pe_callB call_isi (by rfl) T.isinstance (by decide +kernel) (pa_cons (pv 1) (pa_cons (pe_bltn (v := .ty "tuple") (by rfl) T.tuple (by decide +kernel) rfl) pa_nil))) (nomark _)))))
          (pss_one (ps_ret pe_bl))
          pss_nil)
        (pss_one (ps_ret (pe_and (pe_cmpR op_eq (pe_callB call_len (by rfl) T.len PySem.boot_len (pa_cons (pv 0) pa_nil)) (pe_callB call_len (by rfl) T.len PySem.boot_len (pa_cons (pv 1) pa_nil)) (nomark _)) (pe_one (pe_callB (cr_all rfl) (by rfl) T.all (by decide +kernel) (pa_cons (pe_lc (own := [("_law_one_here", 2), ("_law_two", 3)]) (g := gTup K 2 (gCons (gName 2) (gCons (gName 3) gNil))) (tt := tYes) (by rfl) nd (RZ.pi_zipA (by rfl) T.zip (pa_cons (pv 0) (pa_cons (pv 1) pa_nil)))
  (blkOk_by (own := [("_law_one_here", 2), ("_law_two", 3)]) (N := nSame) (sc := defScope sSame) (by decide +kernel))
  (fun _ _ _ _ _ => pg_tup rfl (pgs_cons (pg_name (i := 2) nd rfl (Or.inl rfl) (Or.inr rfl)) (pgs_cons (pg_name (i := 3) nd rfl (Or.inl rfl) (Or.inr rfl)) pgs_nil))) (fun _ _ _ _ _ => pts_nil)
  (fun _ _ _ _ _ => (pe_callP PS hr (by rfl) (pa_cons (pv 2) (pa_cons (pv 3) pa_nil))))) pa_nil)))))))
        pss_nil)
      (pss_cons (ps_if (pt_val (pe_callB call_isi (by rfl) T.isinstance (by decide +kernel) (pa_cons (pv 1) (pa_cons (pe_bltn (v := .ty "int") (by rfl) T.int (by decide +kernel) rfl) pa_nil))))
        (pss_one (ps_ret (pe_and (pe_callB call_isi (by rfl) T.isinstance (by decide +kernel) (pa_cons (pv 0) (pa_cons (pe_bltn (v := .ty "int") (by rfl) T.int (by decide +kernel) rfl) pa_nil))) (pe_and (pe_cmpR op_eq (pe_callB call_isi (by rfl) T.isinstance (by decide +kernel) (pa_cons (pv 0) (pa_cons (pe_bltn (v := .ty "bool") (by rfl) T.bool (by decide +kernel) rfl) pa_nil))) (pe_callB call_isi (by rfl) T.isinstance (by decide +kernel) (pa_cons (pv 1) (pa_cons (pe_bltn (v := .ty "bool") (by rfl) T.bool (by decide +kernel) rfl) pa_nil))) (nomark _)) (pe_one (pe_cmpR op_eq (pv 0) (pv 1) (nomark _)))))))
        pss_nil)
      (pss_one (ps_ret (pe_and (pe_cmpR op_isBl (pe_callB call_isiT (by rfl) T.isinstance (by decide +kernel) (pa_cons (pv 0) (pa_cons (pe_tup (pa_cons (pe_bltn (v := .ty "bool") (by rfl) T.bool (by decide +kernel) rfl) (pa_cons (pe_bltn (v := .ty "int") (by rfl) T.int (by decide +kernel) rfl) (pa_cons (pe_bltn (v := .ty "list") (by rfl) T.list (by decide +kernel) rfl) (pa_cons (pe_bltn (v := .ty "tuple") (by rfl) T.tuple (by decide +kernel) rfl) pa_nil))))) pa_nil))) pe_bl (nomark _)) (pe_one (pe_cmpR op_eq (pv 0) (pv 1) (nomark _)))))))), ?_⟩
    refine ⟨_, rfl, (by show 2 ≤ sizeLine; decide), fun tp htp => ?_⟩
    have s1 : Same H (upd H tp (.tup [.ty "list", .ty "tuple"])) := fun b o e => by
      rw [upd_ne (ne_of_none e htp)]
      exact e
    have hx1 := hx.mono (Same.but s1)
    have hy1 := hy.mono (Same.but s1)
    have hxs : ∀ H', Same H H' → At m H' x d := fun H' s => hx.mono (Same.but s)
    cases lv with
    | non n =>
      cases hx
      cases hy
      refine ⟨_, _, _, _, _, false, rfl, upd_same, cls_all ["list", "tuple"], (hy1).ty, kit_any k_NoneType_lt, ?_⟩
      refine ⟨_, rfl, iteF ?_⟩
      refine ⟨_, rfl, ?_⟩
      refine ⟨_, _, _, _, false, rfl, .ty _, hy1.ty, kit_ty k_NoneType_int, ?_⟩
      refine ⟨_, rfl, iteF ?_⟩
      refine ⟨_, rfl, (by show 4 ≤ sizeLine; decide), fun tq htq => ?_⟩
      have s2 : Same H (upd (upd H tp (.tup [.ty "list", .ty "tuple"])) tq (.tup [.ty "bool", .ty "int", .ty "list", .ty "tuple"])) := fun b o e => by
        rw [upd_ne (ne_of_none (s1 _ _ e) htq)]
        exact s1 _ _ e
      refine ⟨_, _, _, _, _, false, rfl, upd_same, cls_all ["bool", "int", "list", "tuple"], (hxs _ s2).ty, kit_any k_NoneType_bilt, ?_⟩
      refine ⟨_, _, rfl, rfl, _, rfl, iteT ?_⟩
      refine ⟨_, rfl, _, rfl, rfl, ?_⟩
      rw [decide_eq_true rfl]
      exact k _ s2
    | bl n b =>
      cases hx
      cases hy
      refine ⟨_, _, _, _, _, false, rfl, upd_same, cls_all ["list", "tuple"], (hy1).ty, kit_any k_bool_lt, ?_⟩
      refine ⟨_, rfl, iteF ?_⟩
      refine ⟨_, rfl, ?_⟩
      refine ⟨_, _, _, _, true, rfl, .ty _, hy1.ty, kit_ty k_bool_int, ?_⟩
      refine ⟨_, rfl, iteT ?_⟩
      refine ⟨_, rfl, ?_⟩
      refine ⟨_, _, _, _, true, rfl, .ty _, hx1.ty, kit_ty k_bool_int, ?_⟩
      refine ⟨_, rfl, iteT ?_⟩
      refine ⟨_, rfl, ?_⟩
      refine ⟨_, _, _, _, true, rfl, .ty _, hx1.ty, kit_ty k_bool_bool, ?_⟩
      refine ⟨_, rfl, ?_⟩
      refine ⟨_, _, _, _, true, rfl, .ty _, hy1.ty, kit_ty k_bool_bool, ?_⟩
      refine ⟨rfl, _, rfl, iteT ?_⟩
      refine ⟨_, rfl, _, rfl, rfl, ?_⟩
      rw [decide_eq_true rfl]
      exact k _ s1
    | int n i =>
      cases hx
      cases hy
      refine ⟨_, _, _, _, _, false, rfl, upd_same, cls_all ["list", "tuple"], (hy1).ty, kit_any k_int_lt, ?_⟩
      refine ⟨_, rfl, iteF ?_⟩
      refine ⟨_, rfl, ?_⟩
      refine ⟨_, _, _, _, true, rfl, .ty _, hy1.ty, kit_ty k_int_int, ?_⟩
      refine ⟨_, rfl, iteT ?_⟩
      refine ⟨_, rfl, ?_⟩
      refine ⟨_, _, _, _, true, rfl, .ty _, hx1.ty, kit_ty k_int_int, ?_⟩
      refine ⟨_, rfl, iteT ?_⟩
      refine ⟨_, rfl, ?_⟩
      refine ⟨_, _, _, _, false, rfl, .ty _, hx1.ty, kit_ty k_int_bool, ?_⟩
      refine ⟨_, rfl, ?_⟩
      refine ⟨_, _, _, _, false, rfl, .ty _, hy1.ty, kit_ty k_int_bool, ?_⟩
      refine ⟨rfl, _, rfl, iteT ?_⟩
      refine ⟨_, rfl, _, rfl, rfl, ?_⟩
      rw [decide_eq_true rfl]
      exact k _ s1
    | str n z =>
      cases hx
      cases hy
      refine ⟨_, _, _, _, _, false, rfl, upd_same, cls_all ["list", "tuple"], (hy1).ty, kit_any k_str_lt, ?_⟩
      refine ⟨_, rfl, iteF ?_⟩
      refine ⟨_, rfl, ?_⟩
      refine ⟨_, _, _, _, false, rfl, .ty _, hy1.ty, kit_ty k_str_int, ?_⟩
      refine ⟨_, rfl, iteF ?_⟩
      refine ⟨_, rfl, (by show 4 ≤ sizeLine; decide), fun tq htq => ?_⟩
      have s2 : Same H (upd (upd H tp (.tup [.ty "list", .ty "tuple"])) tq (.tup [.ty "bool", .ty "int", .ty "list", .ty "tuple"])) := fun b o e => by
        rw [upd_ne (ne_of_none (s1 _ _ e) htq)]
        exact s1 _ _ e
      refine ⟨_, _, _, _, _, false, rfl, upd_same, cls_all ["bool", "int", "list", "tuple"], (hxs _ s2).ty, kit_any k_str_bilt, ?_⟩
      refine ⟨_, _, rfl, rfl, _, rfl, iteT ?_⟩
      refine ⟨_, rfl, _, rfl, rfl, ?_⟩
      rw [decide_eq_true rfl]
      exact k _ s2
    | lst sz lv0 =>
      rename_i n0 ds0
      obtain ⟨a, xs, nx, ex, qx⟩ : ∃ a xs, a ≠ m ∧ (x = .ref a ∧ H a = some (.lst xs)) ∧ AtAll m H xs ds0 := by
        cases hx with
        | lst n0 h0 q0 => exact ⟨_, _, n0, ⟨rfl, h0⟩, q0⟩
      obtain ⟨b, ys, ny, ey, qy⟩ : ∃ b ys, b ≠ m ∧ (y = .ref b ∧ H b = some (.lst ys)) ∧ AtAll m H ys ds0 := by
        cases hy with
        | lst n0 h0 q0 => exact ⟨_, _, n0, ⟨rfl, h0⟩, q0⟩
      obtain ⟨rfl, ex⟩ := ex
      obtain ⟨rfl, ey⟩ := ey
      have lx := qx.length
      have ly := qy.length
      refine ⟨_, _, _, _, _, true, rfl, upd_same, cls_all ["list", "tuple"], (hy1).ty, kit_any k_list_lt, ?_⟩
      refine ⟨_, rfl, iteT ?_⟩
      refine ⟨_, rfl, ?_⟩
      refine ⟨_, _, _, _, true, rfl, .ty _, hx1.ty, kit_ty k_list_list, ?_⟩
      refine ⟨_, rfl, ?_⟩
      refine ⟨_, _, _, _, true, rfl, .ty _, hy1.ty, kit_ty k_list_list, ?_⟩
      refine ⟨rfl, _, rfl, iteF ?_⟩
      refine ⟨_, rfl, ?_⟩
      refine ⟨_, _, _, _, false, rfl, .ty _, hx1.ty, kit_ty k_list_tuple, ?_⟩
      refine ⟨_, rfl, ?_⟩
      refine ⟨_, _, _, _, false, rfl, .ty _, hy1.ty, kit_ty k_list_tuple, ?_⟩
      refine ⟨rfl, _, rfl, iteF ?_⟩
      refine ⟨_, rfl, _, _, rfl, .inl ⟨_, SqL.of (s1 _ _ ex), rfl⟩, _, rfl, _, _, rfl, .inl ⟨_, SqL.of (s1 _ _ ey), rfl⟩, rfl, ?_⟩
      have el : decide (V.int (xs.length : Int) = V.int (ys.length : Int)) = true := decide_eq_true (by rw [lx, ly])
      refine ⟨true, congrArg V.bl el, iteT ?_⟩
      refine ⟨_, rfl, _, rfl, _, _, _, _, rfl, .inl ⟨SqL.of (s1 _ _ ex), SqL.of (s1 _ _ ey), ?_⟩⟩
      intro Dl hD
      refine lc_it (walk_zipL (lx.trans ly.symm)) (fun i H2 => Same H H2 ∧ H Dl = none ∧ H2 Dl = some (.lst ((List.replicate i true).map V.bl))) ?_ ?_ ?_ ?_
      · exact ⟨fun b o e => by rw [upd_ne (ne_of_none (s1 _ _ e) hD)]; exact s1 _ _ e, s1.free hD, upd_same⟩
      · exact fun i H2 _ q => ⟨SqL.of (q.1 _ _ ex), SqL.of (q.1 _ _ ey)⟩
      · rintro i z H2 H3 hi ⟨sm, nD, hl⟩ ⟨T2, u, v, rfl, hT2, rfl, eu, ev⟩
        have nDT : Dl ≠ T2 := ne_of_none hl hT2
        have s3 : Same H (upd H2 T2 (.tup [u, v])) := fun b o e => by
          rw [upd_ne (ne_of_none (sm _ _ e) hT2)]
          exact sm _ _ e
        obtain ⟨du, e1, au⟩ := qx.get eu
        obtain ⟨dv, e2, av⟩ := qy.get ev
        obtain rfl : du = dv := Option.some.inj (e1.symm.trans e2)
        refine ⟨_, _, rfl, SqT.of upd_same, rfl, _, _, rfl, _, _, rfl, rfl, rfl, ?_⟩
        refine ⟨_, rfl, _, rfl, m, u, v, du, o, rfl, s3 _ _ hm, au.mono (Same.but s3), av.mono (Same.but s3), lv0 _ (List.mem_of_getElem? e1), fun H4 s4 => ?_⟩
        refine ⟨_, s4 _ _ (by rw [upd_ne nDT]; exact hl), ?_, ?_⟩
        · rw [List.length_map, List.length_replicate]
          exact small6 (by omega)
        · refine ⟨fun b o e => ?_, nD, ?_⟩
          · rw [upd_ne (ne_of_none e nD)]
            exact s4 _ _ (s3 _ _ e)
          · rw [upd_same, List.replicate_succ', List.map_append]
            rfl
      · rintro H2 ⟨sm, nD, hl⟩
        refine ⟨_, _, rfl, SqL.of hl, ?_⟩
        have ea : (List.replicate xs.length true).all id = true := by
          rw [List.all_eq_true]
          intro b hb
          rw [List.eq_of_mem_replicate hb]
          rfl
        rw [ea]
        exact k _ sm
    | tup sz lv0 =>
      rename_i n0 ds0
      obtain ⟨a, xs, nx, ex, qx⟩ : ∃ a xs, a ≠ m ∧ (x = .ref a ∧ H a = some (.tup xs)) ∧ AtAll m H xs ds0 := by
        cases hx with
        | tup n0 h0 q0 => exact ⟨_, _, n0, ⟨rfl, h0⟩, q0⟩
      obtain ⟨b, ys, ny, ey, qy⟩ : ∃ b ys, b ≠ m ∧ (y = .ref b ∧ H b = some (.tup ys)) ∧ AtAll m H ys ds0 := by
        cases hy with
        | tup n0 h0 q0 => exact ⟨_, _, n0, ⟨rfl, h0⟩, q0⟩
      obtain ⟨rfl, ex⟩ := ex
      obtain ⟨rfl, ey⟩ := ey
      have lx := qx.length
      have ly := qy.length
      refine ⟨_, _, _, _, _, true, rfl, upd_same, cls_all ["list", "tuple"], (hy1).ty, kit_any k_tuple_lt, ?_⟩
      refine ⟨_, rfl, iteT ?_⟩
      refine ⟨_, rfl, ?_⟩
      refine ⟨_, _, _, _, false, rfl, .ty _, hx1.ty, kit_ty k_tuple_list, ?_⟩
      refine ⟨_, rfl, ?_⟩
      refine ⟨_, _, _, _, false, rfl, .ty _, hy1.ty, kit_ty k_tuple_list, ?_⟩
      refine ⟨rfl, _, rfl, iteF ?_⟩
      refine ⟨_, rfl, ?_⟩
      refine ⟨_, _, _, _, true, rfl, .ty _, hx1.ty, kit_ty k_tuple_tuple, ?_⟩
      refine ⟨_, rfl, ?_⟩
      refine ⟨_, _, _, _, true, rfl, .ty _, hy1.ty, kit_ty k_tuple_tuple, ?_⟩
      refine ⟨rfl, _, rfl, iteF ?_⟩
      refine ⟨_, rfl, _, _, rfl, .inr ⟨_, SqT.of (s1 _ _ ex), rfl⟩, _, rfl, _, _, rfl, .inr ⟨_, SqT.of (s1 _ _ ey), rfl⟩, rfl, ?_⟩
      have el : decide (V.int (xs.length : Int) = V.int (ys.length : Int)) = true := decide_eq_true (by rw [lx, ly])
      refine ⟨true, congrArg V.bl el, iteT ?_⟩
      refine ⟨_, rfl, _, rfl, _, _, _, _, rfl, .inr ⟨SqT.of (s1 _ _ ex), SqT.of (s1 _ _ ey), ?_⟩⟩
      intro Dl hD
      refine lc_it (walk_zipT (lx.trans ly.symm)) (fun i H2 => Same H H2 ∧ H Dl = none ∧ H2 Dl = some (.lst ((List.replicate i true).map V.bl))) ?_ ?_ ?_ ?_
      · exact ⟨fun b o e => by rw [upd_ne (ne_of_none (s1 _ _ e) hD)]; exact s1 _ _ e, s1.free hD, upd_same⟩
      · exact fun i H2 _ q => ⟨SqT.of (q.1 _ _ ex), SqT.of (q.1 _ _ ey)⟩
      · rintro i z H2 H3 hi ⟨sm, nD, hl⟩ ⟨T2, u, v, rfl, hT2, rfl, eu, ev⟩
        have nDT : Dl ≠ T2 := ne_of_none hl hT2
        have s3 : Same H (upd H2 T2 (.tup [u, v])) := fun b o e => by
          rw [upd_ne (ne_of_none (sm _ _ e) hT2)]
          exact sm _ _ e
        obtain ⟨du, e1, au⟩ := qx.get eu
        obtain ⟨dv, e2, av⟩ := qy.get ev
        obtain rfl : du = dv := Option.some.inj (e1.symm.trans e2)
        refine ⟨_, _, rfl, SqT.of upd_same, rfl, _, _, rfl, _, _, rfl, rfl, rfl, ?_⟩
        refine ⟨_, rfl, _, rfl, m, u, v, du, o, rfl, s3 _ _ hm, au.mono (Same.but s3), av.mono (Same.but s3), lv0 _ (List.mem_of_getElem? e1), fun H4 s4 => ?_⟩
        refine ⟨_, s4 _ _ (by rw [upd_ne nDT]; exact hl), ?_, ?_⟩
        · rw [List.length_map, List.length_replicate]
          exact small6 (by omega)
        · refine ⟨fun b o e => ?_, nD, ?_⟩
          · rw [upd_ne (ne_of_none e nD)]
            exact s4 _ _ (s3 _ _ e)
          · rw [upd_same, List.replicate_succ', List.map_append]
            rfl
      · rintro H2 ⟨sm, nD, hl⟩
        refine ⟨_, _, rfl, SqL.of hl, ?_⟩
        have ea : (List.replicate xs.length true).all id = true := by
          rw [List.all_eq_true]
          intro b hb
          rw [List.eq_of_mem_replicate hb]
          rfl
        rw [ea]
        exact k _ sm
theorem pr_same (D : Df K mg "_law_same" sSame ["_law_found", "_law_due"]) (T : Ty mg) : ∀ n, Pr P w K mg base n "_law_same" ["_law_found", "_law_due"] (spS n)
  | 0 => by
    obtain ⟨f, fd, F, b, g⟩ := D
    exact ⟨f, fd, ⟨fun _ _ _ _ h => h.elim, fun _ _ _ _ _ _ _ _ _ _ _ _ _ h => h.elim⟩, g, F.kp, b⟩
  | n + 1 => step_same D T (pr_same D T n)
end
end C63

set_option Elab.async false
set_option maxRecDepth 100000
set_option maxHeartbeats 4000000
set_option linter.all false
namespace C63
open PySem L2 My M63 TL
abbrev sDigits : Stmt := top 2
abbrev sRun : Stmt := top 9
abbrev sBlank : Stmt := top 10
abbrev sText : Stmt := top 11
abbrev sQuoted : Stmt := top 12
def big : Nat := 1000000
theorem big_ok {n : Nat} (h : n ≤ 1000000) : n ≤ sizeLine := Nat.le_trans h (by decide)
section
variable {P : Program} {w : World} {K : PySem.W.Frag} {mg : Str → Option Value} {base : Heap}
def spDigits : Sp := fun vs H Q _ => ∃ a : Str, vs = [.str a] ∧ (∀ c, c ∈ tl a → 48 ≤ c ∧ c ≤ 57) ∧ a.length ≤ 1000000 ∧ ∀ n : Int, Q (.int n) H
theorem scDigits : FnScope ["digits"] ["digits"] (defScope sDigits) := ⟨rfl, rfl, rfl, by decide +kernel, rfl, by decide +kernel, by decide +kernel⟩
theorem pr_digits (D : Df K mg "read_digits" sDigits ["digits"]) (T : Tx mg) : Pr P w K mg base 1 "read_digits" ["digits"] spDigits := by
  refine D.pr scDigits (fun vs H Q E h => ?_) (fun f cdv A outer s H vs Q E hr h => ?_)
  · obtain ⟨a, rfl, _⟩ := h
    rfl
  · obtain ⟨a, rfl, ha, hl, k⟩ := h
    have nd := scDigits.nd
    refine ⟨_, (pss_cons (ps_asg (pe_bm PySem.F.plainAttrs_str PySem.F.slot_str_lstrip PySem.F.type_str_lstrip mt_lstripChars (pv 0) (pa_cons pe_str pa_nil)) (pg_name (i := 0) nd rfl (Or.inl rfl)))
      (pss_cons (ps_if (pt_cmpR op_gt (pe_callB call_len (by rfl) T.len PySem.boot_len (pa_cons (pv 0) pa_nil)) pe_int (nomark _))
        (pss_one (ps_ret (pe_op op_pow pe_int pe_int)))
        pss_nil)
      (pss_one (ps_ret (pe_ifExp (pt_cmpR op_ne (pv 0) pe_str (nomark _)) (pe_callTy call_int_str (by rfl) T.int (by decide +kernel) (pa_cons (pv 0) pa_nil)) pe_int))))), ?_⟩
    refine ⟨_, rfl, rfl, _, _, rfl, rfl, big_ok hl, ?_⟩
    have hb : (Txt.lstripChars a (Str.ofString "0")).length ≤ a.length := PyProof.Rows.len_lstripChars _ _
    have hd : ∀ c, c ∈ tl (Txt.lstripChars a (Str.ofString "0")) → 48 ≤ c ∧ c ≤ 57 := by
      obtain ⟨i, _, e⟩ := PyProof.Rows.lstripChars_is_suffix a (Str.ofString "0")
      rw [e, tl_strSub]
      intro c hc
      exact ha c (List.mem_of_mem_drop (List.mem_of_mem_take hc))
    generalize Txt.lstripChars a (Str.ofString "0") = z at hb hd
    refine ⟨_, rfl, _, _, rfl, ⟨big_ok (by omega), rfl⟩, _, _, rfl, rfl, _, rfl, ?_⟩
    refine ite2 (fun _ => ?_) (fun h30 => ?_)
    · exact ⟨_, _, rfl, rfl, ⟨by decide, by decide, by decide⟩, k _⟩
    · have h30' : z.length ≤ 30 := by
        have h31 : (z.length : Int) ≤ 30 := by simpa using h30
        omega
      refine ⟨_, rfl, rfl, _, rfl, ?_⟩
      by_cases e : V.str z = V.str (Str.ofString "")
      · rw [decide_eq_true e]
        refine iteF (k _)
      · rw [decide_eq_false e]
        refine iteT ?_
        have hne : z.cps.toList ≠ [] := fun q => e (congrArg V.str (ext_tl (by rw [tl_ofString]; exact q)))
        exact ⟨_, rfl, _, _, rfl, intText_digits (x := z) (fun c hc => hd c hc) hne (by omega), by omega, k _⟩
def spRun : Sp := fun vs H Q _ => ∃ (z g : Str) (i : Nat), vs = [.str z, .int i, .str g] ∧ i ≤ z.length ∧ z.length ≤ 1000000 ∧
  ∀ e : Nat, i ≤ e → e ≤ z.length → (∀ k, i ≤ k → k < e → ∃ c, (tl z)[k]? = some c ∧ c ∈ tl g) → (∀ c, (tl z)[e]? = some c → c ∉ tl g) → Q (.int e) H
theorem scRun : FnScope ["sql", "at", "signs"] ["sql", "at", "signs"] (defScope sRun) := ⟨rfl, rfl, rfl, by decide +kernel, rfl, by decide +kernel, by decide +kernel⟩
theorem at_of {z : Str} {e : Nat} (h : e < z.length) : ∃ c, (tl z)[e]? = some c ∧ z.cps[e]? = some c := by
  have hl : e < (tl z).length := by rw [← len_tl]; exact h
  refine ⟨(tl z)[e], List.getElem?_eq_getElem hl, ?_⟩
  have h2 : e < z.cps.size := h
  rw [Array.getElem?_eq_getElem h2]
  simp [tl]
theorem pr_run (D : Df K mg "run_end" sRun ["sql", "at", "signs"]) (T : Tx mg) : Pr P w K mg base 1 "run_end" ["sql", "at", "signs"] spRun := by
  refine D.pr scRun (fun vs H Q E h => ?_) (fun f cdv A outer s H vs Q E hr h => ?_)
  · obtain ⟨z, g, i, rfl, _⟩ := h
    rfl
  · obtain ⟨z, g, i, rfl, hi, hl, k⟩ := h
    have nd := scRun.nd
    refine ⟨_, (Evl.pss_cut (ps_while PassesOwn.never (PW.pt (pw_and (pt_cmpR op_lt (pv 1) (pe_callB call_len (by rfl) T.len PySem.boot_len (pa_cons (pv 0) pa_nil)) (nomark _)) (pw_and1 (pt_cmpR op_in_sign (pe_item_str (pv 0) (pv 1) (fun _ _ => rfl)) (pv 2) rfl))))
        (pss_one (ps_aug (i := 1) nd rfl (Or.inl rfl) pe_int ip_add)))
      (pss_one (ps_ret (pv 1)))), ?_⟩
    refine ⟨fun σ' H1 => H1 = H ∧ ∃ e : Nat, σ' = [some (.str z), some (.int e), some (.str g)] ∧ i ≤ e ∧ e ≤ z.length ∧ (∀ k, i ≤ k → k < e → ∃ c, (tl z)[k]? = some c ∧ c ∈ tl g) ∧ (∀ c, (tl z)[e]? = some c → c ∉ tl g), ?_, ?_⟩
    · refine ⟨fun j σ H1 => H1 = H ∧ ∃ e : Nat, σ = [some (.str z), some (.int e), some (.str g)] ∧ i ≤ e ∧ e ≤ z.length ∧ j = z.length - e ∧ (∀ k, i ≤ k → k < e → ∃ c, (tl z)[k]? = some c ∧ c ∈ tl g), ⟨_, rfl, i, rfl, Nat.le_refl _, hi, rfl, fun k h1 h2 => by omega⟩, ?_⟩
      rintro j σ H1 ⟨rfl, e, rfl, h1, h2, rfl, hk⟩
      refine ⟨_, rfl, _, rfl, _, _, rfl, ⟨big_ok hl, rfl⟩, _, _, rfl, rfl, _, rfl, ?_⟩
      refine ite2 (fun hlt => ?_) (fun hlt => ?_)
      · have hlt' : e < z.length := by
          have := of_decide_eq_true hlt
          omega
        obtain ⟨c, hc, hc2⟩ := at_of hlt'
        refine ⟨_, rfl, _, rfl, _, _, c, rfl, rfl, by omega, by omega, by omega, hc2, _, rfl, _, _, rfl, rfl, _, rfl, ?_⟩
        by_cases hm : c ∈ tl g
        · rw [decide_eq_true hm]
          refine iteT ⟨_, fun σ' H' q => ⟨z.length - (e + 1), by omega, q⟩, _, rfl, _, _, rfl, rfl, rfl, e + 1, rfl, by omega, by omega, rfl, fun k h3 h4 => ?_⟩
          by_cases hke : k = e
          · exact ⟨c, by rw [hke]; exact hc, hm⟩
          · exact hk k h3 (by omega)
        · rw [decide_eq_false hm]
          exact iteF ⟨rfl, e, rfl, h1, h2, hk, fun d hd => by
            rw [hc] at hd
            cases hd
            exact hm⟩
      · have hge : z.length ≤ e := by
          have h31 : z.length ≤ e := by simpa using hlt
          omega
        exact iteF ⟨rfl, e, rfl, h1, h2, hk, fun d hd => by
          have := (List.getElem?_eq_some_iff.mp hd).1
          rw [← len_tl] at this
          omega⟩
    · rintro σ' H1 ⟨rfl, e, rfl, h1, h2, hk, hn⟩
      exact ⟨_, rfl, k e h1 h2 hk hn⟩
end
end C63

set_option Elab.async false
set_option maxRecDepth 100000
set_option maxHeartbeats 4000000
set_option linter.all false
namespace C63
open PySem L2 My M63 TL
structure Tg (K : PySem.W.Frag) (mg : Str → Option Value) : Prop where
  blanks : ∃ t, mg "BLANKS" = some (.str (Str.ofString " \n") t)
  letters : ∃ t, mg "LETTERS" = some (.str (Str.ofString "abcdefghijklmnopqrstuvwxyzABCDEFGHIJKLMNOPQRSTUVWXYZ_") t)
  digits : ∃ t, mg "DIGITS" = some (.str (Str.ofString "0123456789") t)
  single : ∃ t, mg "SINGLE" = some (.str (Str.ofString "(),.;=<>+-*/") t)
  greatest : ∃ t, mg "GREATEST" = some (.int 9223372036854775807 t)
  double : ∃ a, mg "DOUBLE" = some (.ref a) ∧ ∀ H, SqT K H a [.str (Str.ofString "||"), .str (Str.ofString "<="), .str (Str.ofString ">="), .str (Str.ofString "<>"), .str (Str.ofString "!="), .str (Str.ofString "==")]
  min : mg "min" = none
theorem ip_addS {X : Cx} : PIp X .Add (fun x y H Q => ∃ i j, x = .str i ∧ y = .str j ∧ i.length + j.length ≤ sizeLine ∧ Q (.str (i ++ j)) H) :=
  fun pins s σ H x y v u Q I rx ry h => iop_add_str pins s σ H x y v u Q I rx ry h
theorem pe_gS {X : Cx} {x z : Str} {t : Tok} {pos : Pos} (hg : Gl X x) (hm : X.mg x = some (.str z t)) (hd : (x == ("__debug__" : Str)) = false := by decide) : PE X (.Name x pos) (tC (.str z)) := pe_glob hg hm ⟨_, rfl⟩ hd
theorem pe_gI {X : Cx} {x : Str} {z : Int} {t : Tok} {pos : Pos} (hg : Gl X x) (hm : X.mg x = some (.int z t)) (hd : (x == ("__debug__" : Str)) = false := by decide) : PE X (.Name x pos) (tC (.int z)) := pe_glob hg hm ⟨_, rfl⟩ hd
theorem pe_gR {X : Cx} {x : Str} {a : Addr} {pos : Pos} (hg : Gl X x) (hm : X.mg x = some (.ref a)) (hd : (x == ("__debug__" : Str)) = false := by decide) : PE X (.Name x pos) (tC (.ref a)) := pe_glob hg hm rfl hd
section
variable {P : Program} {w : World} {K : PySem.W.Frag} {mg : Str → Option Value} {base : Heap}
def spBlank : Sp := fun vs H Q _ => ∃ (z : Str) (i : Nat), vs = [.str z, .int i] ∧ i ≤ z.length ∧ z.length ≤ 1000000 ∧
  ∀ e : Nat, i ≤ e → e ≤ z.length → (∀ l, scan ((tl z).drop i) l = scan ((tl z).drop e) l) → Clean (tl z) e → Q (.int e) H
theorem scBlank : FnScope ["sql", "at", "end"] ["sql", "at"] (defScope sBlank) := ⟨rfl, rfl, rfl, by decide +kernel, rfl, by decide +kernel, by decide +kernel⟩
theorem ne1 (s : String) (c : Nat) (h : s.toList.map Char.toNat = [c]) : tl (Str.ofString s) ≠ [] := by
  rw [tl_ofString, h]
  exact fun e => nomatch e
theorem pr_blank (D : Df K mg "blank_end" sBlank ["sql", "at"]) (T : Tx mg) (G : Tg K mg) : Pr P w K mg base 1 "blank_end" ["sql", "at"] spBlank := by
  refine D.pr scBlank (fun vs H Q E h => ?_) (fun f cdv A outer s H vs Q E hr h => ?_)
  · obtain ⟨z, i, rfl, _⟩ := h
    rfl
  · obtain ⟨z, i, rfl, hi, hl, k⟩ := h
    have nd := scBlank.nd
    obtain ⟨tb, hB⟩ := G.blanks
    have t10 : tl (Str.ofString "\n") = [10] := by rw [tl_ofString]; rfl
    have tdd : tl (Str.ofString "--") = [45, 45] := by rw [tl_ofString]; rfl
    have tss : tl (Str.ofString "/*") = [47, 42] := by rw [tl_ofString]; rfl
    have tes : tl (Str.ofString "*/") = [42, 47] := by rw [tl_ofString]; rfl
    have tbl : tl (Str.ofString " \n") = [32, 10] := by rw [tl_ofString]; rfl
    have hz := len_tl z
    refine ⟨_, (Evl.pss_cut (ps_while PassesOwn.never (pt_cmpR op_lt (pv 1) (pe_callB call_len (by rfl) T.len PySem.boot_len (pa_cons (pv 0) pa_nil)) (nomark _))
        (pss_one (ps_if (pt_cmpR op_in_sign (pe_item_str (pv 0) (pv 1) (fun _ _ => rfl)) (pe_gS rfl hB) rfl)
          (pss_one (ps_aug (i := 1) nd rfl (Or.inl rfl) pe_int ip_add))
          (pss_one (ps_if (pt_val (pe_bm PySem.F.plainAttrs_str PySem.F.slot_str_startswith PySem.F.type_str_startswith mt_startswith3 (pv 0) (pa_cons pe_str (pa_cons (pv 1) pa_nil))))
            (pss_cons (ps_asg (pe_bm PySem.F.plainAttrs_str PySem.F.slot_str_find PySem.F.type_str_find mt_find3 (pv 0) (pa_cons pe_str (pa_cons (pv 1) pa_nil))) (pg_name (i := 2) nd rfl (Or.inl rfl)))
            (pss_one (ps_asg (pe_ifExp (pt_cmpR op_lt (pv 2) pe_int (nomark _)) (pe_callB call_len (by rfl) T.len PySem.boot_len (pa_cons (pv 0) pa_nil)) (pe_op op_add (pv 2) pe_int)) (pg_name (i := 1) nd rfl (Or.inl rfl)))))
            (pss_one (ps_if (pt_val (pe_bm PySem.F.plainAttrs_str PySem.F.slot_str_startswith PySem.F.type_str_startswith mt_startswith3 (pv 0) (pa_cons pe_str (pa_cons (pv 1) pa_nil))))
              (pss_cons (ps_asg (pe_bm PySem.F.plainAttrs_str PySem.F.slot_str_find PySem.F.type_str_find mt_find3 (pv 0) (pa_cons pe_str (pa_cons (pe_op op_add (pv 1) pe_int) pa_nil))) (pg_name (i := 2) nd rfl (Or.inl rfl)))
              (pss_one (ps_asg (pe_ifExp (pt_cmpR op_lt (pv 2) pe_int (nomark _)) (pe_callB call_len (by rfl) T.len PySem.boot_len (pa_cons (pv 0) pa_nil)) (pe_op op_add (pv 2) pe_int)) (pg_name (i := 1) nd rfl (Or.inl rfl)))))
              (pss_one (ps_ret (pv 1))))))))))
      (pss_one (ps_ret (pv 1)))), ?_⟩
    refine ⟨fun σ' H1 => H1 = H ∧ ∃ o, σ' = [some (.str z), some (.int z.length), o] ∧ ∀ l, scan ((tl z).drop i) l = scan ((tl z).drop z.length) l, ?_, ?_⟩
    · refine ⟨fun j σ H1 => H1 = H ∧ ∃ (e : Nat) (o : Option V), σ = [some (.str z), some (.int e), o] ∧ i ≤ e ∧ e ≤ z.length ∧ j = z.length - e ∧ ∀ l, scan ((tl z).drop i) l = scan ((tl z).drop e) l, ⟨_, rfl, i, _, rfl, Nat.le_refl _, hi, rfl, fun _ => rfl⟩, ?_⟩
      rintro j σ H1 ⟨rfl, e, o, rfl, h1, h2, rfl, hs⟩
      refine ⟨_, rfl, _, rfl, _, _, rfl, ⟨big_ok hl, rfl⟩, _, _, rfl, rfl, _, rfl, ?_⟩
      refine ite2 (fun hlt => ?_) (fun hlt => ?_)
      · have hlt' : e < z.length := by
          have := of_decide_eq_true hlt
          omega
        obtain ⟨c, hc, hc2⟩ := at_of hlt'
        refine ⟨fun σ' H' => H' = H1 ∧ ∃ (e' : Nat) (o' : Option V), σ' = [some (.str z), some (.int e'), o'] ∧ e < e' ∧ e' ≤ z.length ∧ ∀ l, scan ((tl z).drop i) l = scan ((tl z).drop e') l, ?_, ?_⟩
        · rintro σ' H' ⟨rfl, e', o', rfl, h3, h4, hs'⟩
          exact ⟨z.length - e', by omega, rfl, e', o', rfl, by omega, h4, rfl, hs'⟩
        refine ⟨_, rfl, _, rfl, _, _, c, rfl, rfl, by omega, by omega, by omega, hc2, _, _, rfl, rfl, _, rfl, ?_⟩
        refine ite2 (fun hb => ?_) (fun hb => ?_)
        · have hb' : c = 32 ∨ c = 10 := by
            have : c ∈ tl (Str.ofString " \n") := of_decide_eq_true hb
            rw [tbl] at this
            simpa using this
          exact ⟨_, rfl, _, _, rfl, rfl, rfl, e + 1, _, rfl, by omega, by omega, fun l => by rw [hs, scan_blank hc hb']⟩
        · have hb' : c ≠ 32 ∧ c ≠ 10 := by
            have hb2 : c ∉ tl (Str.ofString " \n") := fun q => hb (decide_eq_true q)
            rw [tbl] at hb2
            simpa using hb2
          refine ⟨_, rfl, rfl, _, rfl, _, _, _, rfl, rfl, _, rfl, ?_⟩
          rw [starts_spec z (Str.ofString "--") (by rw [tdd]; simp) e, tdd]
          refine ite2 (fun hd => ?_) (fun hd => ?_)
          · refine ⟨_, rfl, rfl, _, rfl, _, _, _, rfl, rfl, ?_⟩
            rcases find_spec z (Str.ofString "\n") (by rw [t10]; simp) e with ⟨ef, hn⟩ | ⟨j, ef, hj, hp, hn⟩
            · rw [ef]
              refine ⟨_, rfl, _, _, rfl, rfl, _, rfl, ?_⟩
              refine iteT ⟨_, rfl, _, _, rfl, ⟨big_ok hl, rfl⟩, rfl, z.length, _, rfl, by omega, Nat.le_refl _, fun l => ?_⟩
              rw [t10] at hn
              rw [hs, scan_dashes hd, afterC_none (tl z).length e (by omega) hn, List.drop_eq_nil_of_le (by omega)]
            · rw [ef]
              rw [t10] at hn hp
              have hjl : j < z.length := by
                have := (List.getElem?_eq_some_iff.mp (pre_one.mp hp)).1
                omega
              refine ⟨_, rfl, _, _, rfl, rfl, _, rfl, ?_⟩
              rw [decide_eq_false (show ¬ ((j : Int) < 0) by omega)]
              refine iteF ⟨_, rfl, _, _, rfl, rfl, rfl, j + 1, _, rfl, by omega, by omega, fun l => ?_⟩
              rw [hs, scan_dashes hd]
              have q := afterC_at (c := 10) (t := tl z) (j - e) e (by rw [show e + (j - e) = j by omega]; exact hp) fun k a b => hn k a (by omega)
              rw [q]
              congr 1
              congr 1
              omega
          · refine ⟨_, rfl, rfl, _, rfl, _, _, _, rfl, rfl, _, rfl, ?_⟩
            rw [starts_spec z (Str.ofString "/*") (by rw [tss]; simp) e, tss]
            refine ite2 (fun hd2 => ?_) (fun hd2 => ?_)
            · refine ⟨_, rfl, rfl, _, rfl, _, _, rfl, rfl, _, _, _, rfl, rfl, ?_⟩
              have e2 : ((e : Int) + 2) = ((e + 2 : Nat) : Int) := by omega
              rw [e2]
              rcases find_spec z (Str.ofString "*/") (by rw [tes]; simp) (e + 2) with ⟨ef, hn⟩ | ⟨j, ef, hj, hp, hn⟩
              · rw [ef]
                refine ⟨_, rfl, _, _, rfl, rfl, _, rfl, ?_⟩
                refine iteT ⟨_, rfl, _, _, rfl, ⟨big_ok hl, rfl⟩, rfl, z.length, _, rfl, by omega, Nat.le_refl _, fun l => ?_⟩
                rw [tes] at hn
                rw [hs, scan_slash hd2, afterE_none (tl z).length (e + 2) (by omega) hn, List.drop_eq_nil_of_le (by omega)]
              · rw [ef]
                rw [tes] at hn hp
                have hjl : j + 1 < z.length := by
                  have := (List.getElem?_eq_some_iff.mp (pre_two.mp hp).2).1
                  omega
                refine ⟨_, rfl, _, _, rfl, rfl, _, rfl, ?_⟩
                rw [decide_eq_false (show ¬ ((j : Int) < 0) by omega)]
                refine iteF ⟨_, rfl, _, _, rfl, rfl, rfl, j + 2, _, rfl, by omega, by omega, fun l => ?_⟩
                rw [hs, scan_slash hd2]
                have q := afterE_at (t := tl z) (j - (e + 2)) (e + 2) (by rw [show e + 2 + (j - (e + 2)) = j by omega]; exact hp) fun k a b => hn k a (by omega)
                rw [q]
                congr 1
                congr 1
                omega
            · refine ⟨_, rfl, k e h1 h2 hs (.inr ⟨by simpa using hd, by simpa using hd2, fun d hd3 => ?_⟩)⟩
              rw [hc] at hd3
              cases hd3
              exact hb'
      · have hge : z.length ≤ e := by
          have h31 : z.length ≤ e := by simpa using hlt
          omega
        have : e = z.length := by omega
        subst this
        exact ⟨rfl, o, rfl, hs⟩
    · rintro σ' H1 ⟨rfl, o, rfl, hs⟩
      exact ⟨_, rfl, k z.length hi (Nat.le_refl _) hs (.inl hz)⟩
end
end C63

set_option Elab.async false
set_option maxRecDepth 100000
set_option maxHeartbeats 4000000
set_option linter.all false
namespace C63
open PySem L2 My M63 TL
abbrev sInteger : Stmt := top 13
abbrev sPlace : Stmt := top 14
abbrev sTokenAt : Stmt := top 15
theorem same_new {H : Hp} {p : Addr} {o : HO} (h : H p = none) : Same H (upd H p o) := fun b u e => by
  rw [upd_ne (ne_of_none e h)]
  exact e
/-- a token's promise -/
def spTok (C : List Nat → Nat → Prop) : Sp := fun vs H Q _ => ∃ (z : Str) (i : Nat), vs = [.str z, .int i] ∧ i < z.length ∧ z.length ≤ 1000000 ∧ C (tl z) i ∧
  ∀ (p : Addr) (H' : Hp) (kd tx : Str) (e : Nat), H p = none → Same H H' → H' p = some (.tup [.str kd, .str tx, .int i, .int e]) → Step (tl z) i e (kd = Str.ofString "sign" ∧ tx = Str.ofString ";") → Q (.ref p) H'
section
variable {P : Program} {w : World} {K : PySem.W.Frag} {mg : Str → Option Value} {base : Heap}
theorem kd_bad {tx : Str} : ¬ (Str.ofString "bad" = Str.ofString "sign" ∧ tx = Str.ofString ";") := fun h => absurd h.1 (by decide +kernel)
theorem kd_text {tx : Str} : ¬ (Str.ofString "text" = Str.ofString "sign" ∧ tx = Str.ofString ";") := fun h => absurd h.1 (by decide +kernel)
theorem kd_quoted {tx : Str} : ¬ (Str.ofString "quoted" = Str.ofString "sign" ∧ tx = Str.ofString ";") := fun h => absurd h.1 (by decide +kernel)
theorem kd_integer {tx : Str} : ¬ (Str.ofString "integer" = Str.ofString "sign" ∧ tx = Str.ofString ";") := fun h => absurd h.1 (by decide +kernel)
theorem kd_place {tx : Str} : ¬ (Str.ofString "place" = Str.ofString "sign" ∧ tx = Str.ofString ";") := fun h => absurd h.1 (by decide +kernel)
theorem kd_name {tx : Str} : ¬ (Str.ofString "name" = Str.ofString "sign" ∧ tx = Str.ofString ";") := fun h => absurd h.1 (by decide +kernel)
theorem tl_cut (z : Str) (i j : Nat) (h : i ≤ z.length) (h2 : j ≤ z.length) : tl (cutS z (some (i : Int)) (some (j : Int))) = ((tl z).drop i).take (j - i) := by
  show ((z.cps.toList.drop (HT.sIx z.length 0 (some (i : Int)))).take (HT.sIx z.length z.length (some (j : Int)) - HT.sIx z.length 0 (some (i : Int)))) = _
  rw [HT.sIx_nat, HT.sIx_nat, Nat.min_eq_left h, Nat.min_eq_left h2]
theorem cut_len (z : Str) (i j : Nat) : (cutS z (some (i : Int)) (some (j : Int))).length ≤ j - i := by
  rw [len_tl]
  show ((z.cps.toList.drop (HT.sIx z.length 0 (some (i : Int)))).take (HT.sIx z.length z.length (some (j : Int)) - HT.sIx z.length 0 (some (i : Int)))).length ≤ _
  have hz := len_tl z
  rw [HT.sIx_nat, HT.sIx_nat, List.length_take, List.length_drop]
  simp only [tl] at hz
  omega
theorem len_app (a b : Str) : (a ++ b).length = a.length + b.length := by
  rw [len_tl, tl_append, List.length_append, ← len_tl, ← len_tl]
theorem scText : FnScope ["sql", "at", "found", "end", "close"] ["sql", "at"] (defScope sText) := ⟨rfl, rfl, rfl, by decide +kernel, rfl, by decide +kernel, by decide +kernel⟩
theorem pr_text (D : Df K mg "text_token" sText ["sql", "at"]) (T : Tx mg) : Pr P w K mg base 1 "text_token" ["sql", "at"] (spTok fun t i => t[i]? = some 39) := by
  refine D.pr scText (fun vs H Q E h => ?_) (fun f cdv A outer s H vs Q E hr h => ?_)
  · obtain ⟨z, i, rfl, _⟩ := h
    rfl
  · obtain ⟨z, i, rfl, hi, hl, hC, k⟩ := h
    have nd := scText.nd
    have t39 : tl (Str.ofString "'") = [39] := by rw [tl_ofString]; rfl
    have tqq : tl (Str.ofString "''") = [39, 39] := by rw [tl_ofString]; rfl
    have hz := len_tl z
    refine ⟨_, (pss_cons (ps_asg pe_str (pg_name (i := 2) nd rfl (Or.inl rfl)))
      (pss_cons (ps_asg (pe_op op_add (pv 1) pe_int) (pg_name (i := 3) nd rfl (Or.inl rfl)))
      (pss_one (ps_while PassesOwn.never (pt_val pe_bl)
        (pss_cons (ps_asg (pe_bm PySem.F.plainAttrs_str PySem.F.slot_str_find PySem.F.type_str_find mt_find3 (pv 0) (pa_cons pe_str (pa_cons (pv 3) pa_nil))) (pg_name (i := 4) nd rfl (Or.inl rfl)))
        (pss_cons (ps_if (pt_cmpR op_lt (pv 4) pe_int (nomark _))
          (pss_one (ps_ret (pe_tup (pa_cons pe_str (pa_cons (pe_slice sl_str (pv 0) (po_some (pv 1)) po_none) (pa_cons (pv 1) (pa_cons (pe_callB call_len (by rfl) T.len PySem.boot_len (pa_cons (pv 0) pa_nil)) pa_nil)))))))
          pss_nil)
        (pss_cons (ps_aug (i := 2) nd rfl (Or.inl rfl) (pe_slice sl_str (pv 0) (po_some (pv 3)) (po_some (pv 4))) ip_addS)
        (pss_cons (ps_if (pt_not (pt_val (pe_bm PySem.F.plainAttrs_str PySem.F.slot_str_startswith PySem.F.type_str_startswith mt_startswith3 (pv 0) (pa_cons pe_str (pa_cons (pv 4) pa_nil)))))
          (pss_one (ps_ret (pe_tup (pa_cons pe_str (pa_cons (pv 2) (pa_cons (pv 1) (pa_cons (pe_op op_add (pv 4) pe_int) pa_nil)))))))
          pss_nil)
        (pss_cons (ps_aug (i := 2) nd rfl (Or.inl rfl) pe_str ip_addS)
        (pss_one (ps_asg (pe_op op_add (pv 4) pe_int) (pg_name (i := 3) nd rfl (Or.inl rfl))))))))))))), ?_⟩
    refine ⟨_, rfl, _, _, rfl, rfl, ?_⟩
    refine ⟨fun j σ H1 => H1 = H ∧ ∃ (e : Nat) (fd : Str) (o : Option V), σ = [some (.str z), some (.int i), some (.str fd), some (.int e), o] ∧ i < e ∧ e ≤ z.length ∧ j = z.length - e ∧ fd.length ≤ e ∧ ∀ l, scan ((tl z).drop i) l = scan (afterC 39 ((tl z).drop e)) 39,
      ⟨_, rfl, i + 1, _, _, rfl, by omega, by omega, rfl, by show 0 ≤ _; omega, fun l => scan_quote hC (.inl rfl)⟩, ?_⟩
    rintro j σ H1 ⟨rfl, e, fd, o, rfl, h1, h2, rfl, hf, hs⟩
    refine ⟨_, rfl, iteT ?_⟩
    refine ⟨fun σ' H' => H' = H1 ∧ ∃ (e' : Nat) (fd : Str) (o : Option V), σ' = [some (.str z), some (.int i), some (.str fd), some (.int e'), o] ∧ e < e' ∧ e' ≤ z.length ∧ fd.length ≤ e' ∧ ∀ l, scan ((tl z).drop i) l = scan (afterC 39 ((tl z).drop e')) 39, ?_, ?_⟩
    · rintro σ' H' ⟨rfl, e', fd', o', rfl, h3, h4, h5, h6⟩
      exact ⟨z.length - e', by omega, rfl, e', fd', o', rfl, by omega, h4, rfl, h5, h6⟩
    refine ⟨_, rfl, rfl, _, rfl, _, _, _, rfl, rfl, ?_⟩
    rcases find_spec z (Str.ofString "'") (by rw [t39]; simp) e with ⟨ef, hn⟩ | ⟨j, ef, hj, hp, hn⟩
    · rw [ef]
      rw [t39] at hn
      refine ⟨_, rfl, _, _, rfl, rfl, _, rfl, ?_⟩
      refine iteT ?_
      refine ⟨_, rfl, _, rfl, _, rfl, _, rfl, big_ok hl, ?_⟩
      refine ⟨_, rfl, _, rfl, _, _, rfl, ⟨big_ok hl, rfl⟩, (by show 4 ≤ sizeLine; decide), fun p hp => ?_⟩
      refine k p _ _ _ z.length hp (same_new hp) upd_same ⟨hi, by omega, fun l => ⟨39, ?_, iff_of_false (by decide) kd_bad⟩⟩
      rw [hs, afterC_none (tl z).length e (by omega) hn, List.drop_eq_nil_of_le (by omega)]
    · rw [ef]
      rw [t39] at hn hp
      have hjl : j < z.length := by
        have := (List.getElem?_eq_some_iff.mp (pre_one.mp hp)).1
        omega
      have hs2 : ∀ l, scan ((tl z).drop i) l = scan ((tl z).drop (j + 1)) 39 := fun l => by
        have q := afterC_at (c := 39) (t := tl z) (j - e) e (by rw [show e + (j - e) = j by omega]; exact hp) fun k a b => hn k a (by omega)
        rw [hs, q]
        congr 1
        congr 1
        omega
      have hcut := cut_len z e j
      refine ⟨_, rfl, _, _, rfl, rfl, _, rfl, ?_⟩
      rw [decide_eq_false (show ¬ ((j : Int) < 0) by omega)]
      refine iteF ?_
      refine ⟨_, rfl, _, rfl, _, rfl, _, rfl, _, rfl, _, rfl, _, rfl, big_ok hl, _, _, rfl, rfl, ?_, ?_⟩
      · exact big_ok (by omega)
      refine ⟨_, rfl, rfl, _, rfl, _, _, _, rfl, rfl, _, rfl, ?_⟩
      rw [starts_spec z (Str.ofString "''") (by rw [tqq]; simp) j, tqq]
      refine ite2 (fun hq => ?_) (fun hq => ?_)
      · refine ⟨_, rfl, _, rfl, _, rfl, _, _, rfl, rfl, (by show 4 ≤ sizeLine; decide), fun p hp => ?_⟩
        exact k p _ _ _ (j + 1) hp (same_new hp) upd_same ⟨by omega, by omega, fun l => ⟨39, hs2 l, iff_of_false (by decide) kd_text⟩⟩
      · have hq' : pre [39, 39] ((tl z).drop j) = true := by simpa using hq
        obtain ⟨q1, q2⟩ := pre_two.mp hq'
        have hjl2 : j + 1 < z.length := by
          have := (List.getElem?_eq_some_iff.mp q2).1
          omega
        refine ⟨_, rfl, _, _, rfl, rfl, ?_, ?_⟩
        · refine big_ok ?_
          rw [len_app]
          show _ + 1 ≤ _
          omega
        refine ⟨_, rfl, _, _, rfl, rfl, rfl, j + 2, _, _, rfl, by omega, by omega, ?_, fun l => ?_⟩
        · rw [len_app, len_app]
          show _ + 1 ≤ _
          omega
        · rw [hs2, scan_quote q2 (.inl rfl)]
end
end C63

set_option Elab.async false
set_option maxRecDepth 100000
set_option maxHeartbeats 4000000
set_option linter.all false
namespace C63
open PySem L2 My M63 TL
section
variable {P : Program} {w : World} {K : PySem.W.Frag} {mg : Str → Option Value} {base : Heap}
theorem scQuoted : FnScope ["sql", "at", "close", "kind"] ["sql", "at"] (defScope sQuoted) := ⟨rfl, rfl, rfl, by decide +kernel, rfl, by decide +kernel, by decide +kernel⟩
theorem pr_quoted (D : Df K mg "quoted_token" sQuoted ["sql", "at"]) (T : Tx mg) : Pr P w K mg base 1 "quoted_token" ["sql", "at"] (spTok fun t i => t[i]? = some 34) := by
  refine D.pr scQuoted (fun vs H Q E h => ?_) (fun f cdv A outer s H vs Q E hr h => ?_)
  · obtain ⟨z, i, rfl, _⟩ := h
    rfl
  · obtain ⟨z, i, rfl, hi, hl, hC, k⟩ := h
    have nd := scQuoted.nd
    have t34 : tl (Str.ofString "\"") = [34] := by rw [tl_ofString]; rfl
    have hz := len_tl z
    refine ⟨_, (pss_cons (ps_asg (pe_bm PySem.F.plainAttrs_str PySem.F.slot_str_find PySem.F.type_str_find mt_find3 (pv 0) (pa_cons pe_str (pa_cons (pe_op op_add (pv 1) pe_int) pa_nil))) (pg_name (i := 2) nd rfl (Or.inl rfl)))
      (pss_cons (ps_if (pt_cmpR op_lt (pv 2) pe_int (nomark _))
        (pss_one (ps_ret (pe_tup (pa_cons pe_str (pa_cons (pe_slice sl_str (pv 0) (po_some (pv 1)) po_none) (pa_cons (pv 1) (pa_cons (pe_callB call_len (by rfl) T.len PySem.boot_len (pa_cons (pv 0) pa_nil)) pa_nil)))))))
        pss_nil)
      (Evl.pss_cut (ps_asg (pe_ifExp (pt_cmpR op_gt (pv 2) (pe_op op_add (pv 1) pe_int) (nomark _)) pe_str pe_str) (pg_name (i := 3) nd rfl (Or.inl rfl)))
      (pss_one (ps_ret (pe_tup (pa_cons (pv 3) (pa_cons (pe_slice sl_str (pv 0) (po_some (pe_op op_add (pv 1) pe_int)) (po_some (pv 2))) (pa_cons (pv 1) (pa_cons (pe_op op_add (pv 2) pe_int) pa_nil)))))))))), ?_⟩
    have e1 : ((i : Int) + 1) = ((i + 1 : Nat) : Int) := by omega
    refine ⟨_, rfl, rfl, _, rfl, _, _, rfl, rfl, _, _, _, rfl, rfl, ?_⟩
    rw [e1]
    rcases find_spec z (Str.ofString "\"") (by rw [t34]; simp) (i + 1) with ⟨ef, hn⟩ | ⟨j, ef, hj, hp, hn⟩
    · rw [ef]
      rw [t34] at hn
      refine ⟨_, rfl, _, _, rfl, rfl, _, rfl, ?_⟩
      refine iteT ?_
      refine ⟨_, rfl, _, rfl, _, rfl, _, rfl, big_ok hl, ?_⟩
      refine ⟨_, rfl, _, rfl, _, _, rfl, ⟨big_ok hl, rfl⟩, (by show 4 ≤ sizeLine; decide), fun p hp => ?_⟩
      refine k p _ _ _ z.length hp (same_new hp) upd_same ⟨hi, by omega, fun l => ⟨34, ?_, iff_of_false (by decide) kd_bad⟩⟩
      rw [scan_quote hC (.inr rfl), afterC_none (tl z).length (i + 1) (by omega) hn, List.drop_eq_nil_of_le (by omega)]
    · rw [ef]
      rw [t34] at hn hp
      have hjl : j < z.length := by
        have := (List.getElem?_eq_some_iff.mp (pre_one.mp hp)).1
        omega
      have hs2 : ∀ l, scan ((tl z).drop i) l = scan ((tl z).drop (j + 1)) 34 := fun l => by
        have q := afterC_at (c := 34) (t := tl z) (j - (i + 1)) (i + 1) (by rw [show i + 1 + (j - (i + 1)) = j by omega]; exact hp) fun k a b => hn k a (by omega)
        rw [scan_quote hC (.inr rfl), q]
        congr 1
        congr 1
        omega
      refine ⟨_, rfl, _, _, rfl, rfl, _, rfl, ?_⟩
      rw [decide_eq_false (show ¬ ((j : Int) < 0) by omega)]
      refine iteF ?_
      refine ⟨fun σ' H1 => H1 = H ∧ ∃ kd : Str, (∀ tx, ¬ (kd = Str.ofString "sign" ∧ tx = Str.ofString ";")) ∧ σ' = [some (.str z), some (.int i), some (.int j), some (.str kd)], ?_, ?_⟩
      · refine ⟨_, rfl, _, rfl, _, _, rfl, rfl, _, _, rfl, rfl, _, rfl, ?_⟩
        exact ite2 (fun _ => ⟨rfl, _, fun _ => kd_quoted, rfl⟩) (fun _ => ⟨rfl, _, fun _ => kd_bad, rfl⟩)
      · rintro σ' H1 ⟨rfl, kd, hkd, rfl⟩
        refine ⟨_, rfl, _, rfl, _, rfl, _, _, rfl, rfl, _, rfl, _, rfl, _, rfl, _, rfl, big_ok hl, ?_⟩
        refine ⟨_, rfl, _, rfl, _, _, rfl, rfl, (by show 4 ≤ sizeLine; decide), fun p hp => ?_⟩
        exact k p _ _ _ (j + 1) hp (same_new hp) upd_same ⟨by omega, by omega, fun l => ⟨34, hs2 l, iff_of_false (by decide) (hkd _)⟩⟩
/-! runs of letters and digits -/
theorem plain_letters : ∀ c, c ∈ tl (Str.ofString "abcdefghijklmnopqrstuvwxyzABCDEFGHIJKLMNOPQRSTUVWXYZ_") → plain c = true ∧ c ≠ 59 := by
  rw [tl_ofString]
  decide +kernel
theorem plain_digits : ∀ c, c ∈ tl (Str.ofString "0123456789") → (plain c = true ∧ c ≠ 59) ∧ 48 ≤ c ∧ c ≤ 57 := by
  rw [tl_ofString]
  decide +kernel
theorem scInteger : FnScope ["sql", "at", "end"] ["sql", "at"] (defScope sInteger) := ⟨rfl, rfl, rfl, by decide +kernel, rfl, by decide +kernel, by decide +kernel⟩
theorem pr_integer (D : Df K mg "integer_token" sInteger ["sql", "at"]) (T : Tx mg) (G : Tg K mg) (PR : Pr P w K mg base 1 "run_end" ["sql", "at", "signs"] spRun) (PD : Pr P w K mg base 1 "read_digits" ["digits"] spDigits) : Pr P w K mg base 2 "integer_token" ["sql", "at"] (spTok fun t i => ∃ c, t[i]? = some c ∧ c ∈ tl (Str.ofString "0123456789")) := by
  refine D.pr scInteger (fun vs H Q E h => ?_) (fun f cdv A outer s H vs Q E hr h => ?_)
  · obtain ⟨z, i, rfl, _⟩ := h
    rfl
  · obtain ⟨z, i, rfl, hi, hl, ⟨c0, hc0, hd0⟩, k⟩ := h
    have nd := scInteger.nd
    obtain ⟨_, hDi⟩ := G.digits
    obtain ⟨_, hLe⟩ := G.letters
    obtain ⟨_, hGr⟩ := G.greatest
    have hz := len_tl z
    refine ⟨_, (pss_cons (ps_asg (pe_callP PR hr (by rfl) (pa_cons (pv 0) (pa_cons (pv 1) (pa_cons (pe_gS rfl hDi) pa_nil)))) (pg_name (i := 2) nd rfl (Or.inl rfl)))
      (pss_cons (ps_if (PW.pt (pw_or (PW.pt (pw_and (pt_cmpR op_lt (pv 2) (pe_callB call_len (by rfl) T.len PySem.boot_len (pa_cons (pv 0) pa_nil)) (nomark _)) (pw_and1 (pt_cmpR op_in_sign (pe_item_str (pv 0) (pv 2) (fun _ _ => rfl)) (pe_gS rfl hLe) rfl)))) (pw_or1 (pt_cmpR op_gt (pe_callP PD hr (by rfl) (pa_cons (pe_slice sl_str (pv 0) (po_some (pv 1)) (po_some (pv 2))) pa_nil)) (pe_op op_add (pe_gI rfl hGr) pe_int) (nomark _)))))
        (pss_one (ps_ret (pe_tup (pa_cons pe_str (pa_cons (pe_item_str (pv 0) (pv 1) (fun _ _ => rfl)) (pa_cons (pv 1) (pa_cons (pe_op op_add (pv 1) pe_int) pa_nil)))))))
        pss_nil)
      (pss_one (ps_ret (pe_tup (pa_cons pe_str (pa_cons (pe_slice sl_str (pv 0) (po_some (pv 1)) (po_some (pv 2))) (pa_cons (pv 1) (pa_cons (pv 2) pa_nil))))))))), ?_⟩
    refine ⟨_, rfl, _, rfl, z, _, i, rfl, by omega, hl, fun e h1 h2 hk hn => ?_⟩
    have hie : i < e := by
      by_cases q : e = i
      · subst q
        exact absurd hd0 (hn c0 hc0)
      · omega
    have hrun : ∀ k, i ≤ k → k < e → ∃ c, (tl z)[k]? = some c ∧ plain c = true ∧ c ≠ 59 := fun k a b => by
      obtain ⟨c, q1, q2⟩ := hk k a b
      exact ⟨c, q1, (plain_digits c q2).1⟩
    obtain ⟨c1, hc1, hc2⟩ := at_of hi
    obtain rfl : c0 = c1 := Option.some.inj (hc0.symm.trans hc1)
    dsimp only [gName]
    refine seq_if_any (fun K' kT kF => ?_) ?_ ?_
    · have rest : ∀ K2 : Bool → Hp → Prop, K2 true H → K2 false H → ∀ b : Bool, K2 b H := fun K2 a b c => by cases c <;> assumption
      have dig : ∀ c, c ∈ tl (cutS z (some (i : Int)) (some (e : Int))) → 48 ≤ c ∧ c ≤ 57 := fun c hc => by
        rw [tl_cut z i e (by omega) h2] at hc
        obtain ⟨m, hm, em⟩ := List.getElem_of_mem hc
        rw [List.length_take, List.length_drop] at hm
        obtain ⟨c', q1, q2⟩ := hk (i + m) (by omega) (by omega)
        rw [List.getElem_take, List.getElem_drop] at em
        rw [List.getElem?_eq_getElem (by omega)] at q1
        rw [← em, Option.some.inj q1]
        exact (plain_digits c' q2).2
      refine ⟨_, rfl, _, rfl, _, _, rfl, ⟨big_ok hl, rfl⟩, _, _, rfl, rfl, _, rfl, ?_⟩
      refine ite2 (fun hlt => ?_) (fun _ => ?_)
      · have hlt' : e < z.length := by
          have := of_decide_eq_true hlt
          omega
        obtain ⟨c, hc, hc3⟩ := at_of hlt'
        refine ⟨_, rfl, _, rfl, _, _, c, rfl, rfl, by omega, by omega, by omega, hc3, _, _, rfl, rfl, _, rfl, ?_⟩
        refine ite2 (fun _ => kT) (fun _ => ?_)
        refine ⟨_, rfl, _, rfl, _, rfl, _, rfl, _, rfl, _, rfl, big_ok hl, _, rfl, dig, Nat.le_trans (cutS_length _ _ _) hl, fun n => ?_⟩
        exact ⟨_, _, rfl, rfl, _, _, rfl, rfl, _, rfl, by_bool kT kF _⟩
      · refine ⟨_, rfl, _, rfl, _, rfl, _, rfl, _, rfl, _, rfl, big_ok hl, _, rfl, dig, Nat.le_trans (cutS_length _ _ _) hl, fun n => ?_⟩
        exact ⟨_, _, rfl, rfl, _, _, rfl, rfl, _, rfl, by_bool kT kF _⟩
    · refine ⟨_, rfl, _, rfl, _, _, c0, rfl, rfl, by omega, by omega, by omega, hc2, ?_⟩
      refine ⟨_, rfl, _, rfl, _, _, rfl, rfl, (by show 4 ≤ sizeLine; decide), fun p hp => ?_⟩
      exact k p _ _ _ (i + 1) hp (same_new hp) upd_same (Step.run kd_bad (by omega) (by omega) fun k a b => hrun k a (by omega))
    · refine ⟨_, rfl, _, rfl, _, rfl, _, rfl, _, rfl, _, rfl, big_ok hl, ?_⟩
      refine ⟨_, rfl, _, rfl, (by show 4 ≤ sizeLine; decide), fun p hp => ?_⟩
      exact k p _ _ _ e hp (same_new hp) upd_same (Step.run kd_integer hie (by omega) hrun)
end
end C63

set_option Elab.async false
set_option maxRecDepth 100000
set_option maxHeartbeats 4000000
set_option linter.all false
namespace C63
open PySem L2 My M63 TL
section
variable {P : Program} {w : World} {K : PySem.W.Frag} {mg : Str → Option Value} {base : Heap}
theorem tl_cut2 (z : Str) (i j : Nat) (h : i ≤ z.length) : tl (cutS z (some (i : Int)) (some (j : Int))) = ((tl z).drop i).take (j - i) := by
  show ((z.cps.toList.drop (HT.sIx z.length 0 (some (i : Int)))).take (HT.sIx z.length z.length (some (j : Int)) - HT.sIx z.length 0 (some (i : Int)))) = _
  rw [HT.sIx_nat, HT.sIx_nat, Nat.min_eq_left h]
  have hz := len_tl z
  by_cases q : j ≤ z.length
  · rw [Nat.min_eq_left q]
  · rw [Nat.min_eq_right (by omega), List.take_of_length_le (by rw [List.length_drop]; simp only [tl] at hz; omega), List.take_of_length_le (by rw [List.length_drop]; omega)]
theorem plain_both : ∀ c, c ∈ tl (Str.ofString "abcdefghijklmnopqrstuvwxyzABCDEFGHIJKLMNOPQRSTUVWXYZ_" ++ Str.ofString "0123456789") → plain c = true ∧ c ≠ 59 := by
  intro c hc
  rw [tl_append] at hc
  rcases List.mem_append.mp hc with h | h
  · exact plain_letters c h
  · exact (plain_digits c h).1
theorem plain_place : ∀ c, c ∈ tl (Str.ofString "?:@$") → plain c = true ∧ c ≠ 59 := by
  rw [tl_ofString]
  decide +kernel
theorem one_eq {c d : Nat} {x : String} (hx : x.toList.map Char.toNat = [d]) : V.str ⟨#[c]⟩ = V.str (Str.ofString x) ↔ c = d := by
  constructor
  · intro h
    injection h with h
    have h2 : tl (⟨#[c]⟩ : Str) = tl (Str.ofString x) := congrArg tl h
    rw [tl_ofString, hx] at h2
    simpa [tl] using h2
  · intro h
    refine congrArg V.str (ext_tl ?_)
    rw [tl_ofString, hx, h]
theorem scPlace : FnScope ["sql", "at", "end"] ["sql", "at"] (defScope sPlace) := ⟨rfl, rfl, rfl, by decide +kernel, rfl, by decide +kernel, by decide +kernel⟩
theorem pr_place (D : Df K mg "place_token" sPlace ["sql", "at"]) (T : Tx mg) (G : Tg K mg) (PR : Pr P w K mg base 1 "run_end" ["sql", "at", "signs"] spRun) : Pr P w K mg base 2 "place_token" ["sql", "at"] (spTok fun t i => ∃ c, t[i]? = some c ∧ c ∈ tl (Str.ofString "?:@$")) := by
  refine D.pr scPlace (fun vs H Q E h => ?_) (fun f cdv A outer s H vs Q E hr h => ?_)
  · obtain ⟨z, i, rfl, _⟩ := h
    rfl
  · obtain ⟨z, i, rfl, hi, hl, ⟨c0, hc0, hd0⟩, k⟩ := h
    have nd := scPlace.nd
    obtain ⟨_, hDi⟩ := G.digits
    obtain ⟨_, hLe⟩ := G.letters
    have hmin := G.min
    have hz := len_tl z
    have e1 : ((i : Int) + 1) = ((i + 1 : Nat) : Int) := by omega
    obtain ⟨c1, hc1, hc2⟩ := at_of hi
    obtain rfl : c0 = c1 := Option.some.inj (hc0.symm.trans hc1)
    refine ⟨_, (pss_cons (ps_if (pt_cmpR op_eq (pe_item_str (pv 0) (pv 1) (fun _ _ => rfl)) pe_str (nomark _))
        (pss_cons (ps_asg (pe_op op_add (pv 1) pe_int) (pg_name (i := 2) nd rfl (Or.inl rfl)))
        (Evl.pss_cut (ps_if (pt_cmpR op_in_seq (pe_slice sl_str (pv 0) (po_some (pv 2)) (po_some (pe_op op_add (pv 2) pe_int))) (pe_tup (pa_cons pe_str (pa_cons pe_str (pa_cons pe_str (pa_cons pe_str (pa_cons pe_str (pa_cons pe_str (pa_cons pe_str (pa_cons pe_str (pa_cons pe_str pa_nil)))))))))) (by rfl))
          (pss_one (ps_asg (pe_callB (call_min2 rfl) (by rfl) hmin (by decide +kernel) (pa_cons (pe_op op_add (pv 1) pe_int) (pa_cons (pe_callP PR hr (by rfl) (pa_cons (pv 0) (pa_cons (pv 2) (pa_cons (pe_gS rfl hDi) pa_nil)))) pa_nil))) (pg_name (i := 2) nd rfl (Or.inl rfl))))
          pss_nil)
        (pss_one (ps_ret (pe_tup (pa_cons pe_str (pa_cons (pe_slice sl_str (pv 0) (po_some (pv 1)) (po_some (pv 2))) (pa_cons (pv 1) (pa_cons (pv 2) pa_nil)))))))))
        pss_nil)
      (pss_cons (ps_asg (pe_callP PR hr (by rfl) (pa_cons (pv 0) (pa_cons (pe_op op_add (pv 1) pe_int) (pa_cons (pe_op op_add_str (pe_gS rfl hLe) (pe_gS rfl hDi)) pa_nil)))) (pg_name (i := 2) nd rfl (Or.inl rfl)))
      (pss_cons (ps_if (pt_cmpR op_eq (pv 2) (pe_op op_add (pv 1) pe_int) (nomark _))
        (pss_one (ps_ret (pe_tup (pa_cons pe_str (pa_cons (pe_item_str (pv 0) (pv 1) (fun _ _ => rfl)) (pa_cons (pv 1) (pa_cons (pv 2) pa_nil)))))))
        pss_nil)
      (pss_one (ps_ret (pe_tup (pa_cons pe_str (pa_cons (pe_slice sl_str (pv 0) (po_some (pv 1)) (po_some (pv 2))) (pa_cons (pv 1) (pa_cons (pv 2) pa_nil)))))))))), ?_⟩
    refine ⟨_, rfl, _, rfl, _, _, c0, rfl, rfl, by omega, by omega, by omega, hc2, rfl, _, rfl, ?_⟩
    refine ite2 (fun _ => ?_) (fun _ => ?_)
    · refine ⟨_, rfl, _, _, rfl, rfl, ?_⟩
      refine ⟨fun σ' H1 => Same H H1 ∧ ∃ e : Nat, σ' = [some (.str z), some (.int i), some (.int e)] ∧ i < e ∧ e ≤ z.length ∧ (∀ k, i < k → k < e → ∃ c, (tl z)[k]? = some c ∧ c ∈ tl (Str.ofString "0123456789")), ?_, ?_⟩
      · refine ⟨_, rfl, _, rfl, _, rfl, _, rfl, _, _, rfl, rfl, _, rfl, _, rfl, big_ok hl, ?_⟩
        refine ⟨(by show 9 ≤ sizeLine; decide), fun tp htp => ?_⟩
        refine ⟨_, _, rfl, .inr (SqT.of upd_same), rfl, rfl, _, rfl, ?_⟩
        refine ite2 (fun _ => ?_) (fun _ => ?_)
        · refine ⟨_, rfl, _, _, rfl, rfl, _, rfl, _, rfl, z, _, i + 1, rfl, by omega, hl, fun e h1 h2 hk hn => ?_⟩
          refine ⟨_, _, rfl, ?_⟩
          by_cases q : (e : Int) < (i : Int) + 3
          · rw [if_pos q]
            exact ⟨same_new htp, e, rfl, by omega, h2, fun k a b => hk k (by omega) b⟩
          · rw [if_neg q]
            exact ⟨same_new htp, i + 3, rfl, by omega, by omega, fun k a b => hk k (by omega) (by omega)⟩
        · exact ⟨same_new htp, i + 1, rfl, by omega, by omega, fun k a b => by omega⟩
      · rintro σ' H1 ⟨sm, e, rfl, h1, h2, hk⟩
        refine ⟨_, rfl, _, rfl, _, rfl, _, rfl, _, rfl, _, rfl, big_ok hl, ?_⟩
        refine ⟨_, rfl, _, rfl, (by show 4 ≤ sizeLine; decide), fun p hp => ?_⟩
        refine k p _ _ _ e (sm.free hp) (fun b o q => same_new hp _ _ (sm _ _ q)) upd_same (Step.run kd_place h1 (by omega) fun k a b => ?_)
        by_cases q : k = i
        · exact ⟨c0, by rw [q]; exact hc0, plain_place c0 hd0⟩
        · obtain ⟨c, q1, q2⟩ := hk k (by omega) b
          exact ⟨c, q1, (plain_digits c q2).1⟩
    · refine ⟨_, rfl, _, rfl, _, _, rfl, rfl, _, _, rfl, rfl, (by decide +kernel), ?_⟩
      refine ⟨z, _, i + 1, rfl, by omega, hl, fun e h1 h2 hk hn => ?_⟩
      have hrun : ∀ k, i ≤ k → k < e → ∃ c, (tl z)[k]? = some c ∧ plain c = true ∧ c ≠ 59 := fun k a b => by
        by_cases q : k = i
        · exact ⟨c0, by rw [q]; exact hc0, plain_place c0 hd0⟩
        · obtain ⟨c, q1, q2⟩ := hk k (by omega) b
          exact ⟨c, q1, plain_both c q2⟩
      refine ⟨_, rfl, _, rfl, _, _, rfl, rfl, rfl, _, rfl, ?_⟩
      refine ite2 (fun _ => ?_) (fun _ => ?_)
      · refine ⟨_, rfl, _, rfl, _, _, c0, rfl, rfl, by omega, by omega, by omega, hc2, ?_⟩
        refine ⟨_, rfl, _, rfl, (by show 4 ≤ sizeLine; decide), fun p hp => ?_⟩
        exact k p _ _ _ e hp (same_new hp) upd_same (Step.run kd_bad (by omega) (by omega) hrun)
      · refine ⟨_, rfl, _, rfl, _, rfl, _, rfl, _, rfl, _, rfl, big_ok hl, ?_⟩
        refine ⟨_, rfl, _, rfl, (by show 4 ≤ sizeLine; decide), fun p hp => ?_⟩
        exact k p _ _ _ e hp (same_new hp) upd_same (Step.run kd_place (by omega) (by omega) hrun)
theorem in_double {x : Str} (h : inV (.str x) [.str (Str.ofString "||"), .str (Str.ofString "<="), .str (Str.ofString ">="), .str (Str.ofString "<>"), .str (Str.ofString "!="), .str (Str.ofString "==")] = true) :
    ∃ c d, tl x = [c, d] ∧ (plain c = true ∧ c ≠ 59) ∧ plain d = true ∧ d ≠ 59 := by
  unfold inV at h
  rw [List.any_eq_true] at h
  obtain ⟨y, hy, e⟩ := h
  have key : ∀ s : String, (∃ c d, s.toList.map Char.toNat = [c, d] ∧ (plain c = true ∧ c ≠ 59) ∧ plain d = true ∧ d ≠ 59) → eqV (.str (Str.ofString s)) (.str x) = true → ∃ c d, tl x = [c, d] ∧ (plain c = true ∧ c ≠ 59) ∧ plain d = true ∧ d ≠ 59 := fun s hs q => by
    have e1 : Str.ofString s = x := eq_of_beq q
    obtain ⟨c, d, e2, r⟩ := hs
    exact ⟨c, d, by rw [← e1, tl_ofString, e2], r⟩
  simp only [List.mem_cons, List.not_mem_nil, or_false] at hy
  rcases hy with rfl | rfl | rfl | rfl | rfl | rfl
  · exact key "||" ⟨_, _, rfl, by decide, by decide, by decide⟩ e
  · exact key "<=" ⟨_, _, rfl, by decide, by decide, by decide⟩ e
  · exact key ">=" ⟨_, _, rfl, by decide, by decide, by decide⟩ e
  · exact key "<>" ⟨_, _, rfl, by decide, by decide, by decide⟩ e
  · exact key "!=" ⟨_, _, rfl, by decide, by decide, by decide⟩ e
  · exact key "==" ⟨_, _, rfl, by decide, by decide, by decide⟩ e
end
end C63

set_option Elab.async false
set_option maxRecDepth 100000
set_option maxHeartbeats 4000000
set_option linter.all false
namespace C63
open PySem L2 My M63 TL
abbrev sTokens : Stmt := top 16
abbrev sSemi : Stmt := top 18
abbrev sComplete : Stmt := top 20
section
variable {P : Program} {w : World} {K : PySem.W.Frag} {mg : Str → Option Value} {base : Heap}
theorem scTokenAt : FnScope ["sql", "at", "sign", "end"] ["sql", "at"] (defScope sTokenAt) := ⟨rfl, rfl, rfl, by decide +kernel, rfl, by decide +kernel, by decide +kernel⟩
theorem pr_tokenAt (D : Df K mg "token_at" sTokenAt ["sql", "at"]) (T : Tx mg) (G : Tg K mg) (PR : Pr P w K mg base 1 "run_end" ["sql", "at", "signs"] spRun)
    (PI : Pr P w K mg base 2 "integer_token" ["sql", "at"] (spTok fun t i => ∃ c, t[i]? = some c ∧ c ∈ tl (Str.ofString "0123456789")))
    (PT : Pr P w K mg base 1 "text_token" ["sql", "at"] (spTok fun t i => t[i]? = some 39))
    (PQ : Pr P w K mg base 1 "quoted_token" ["sql", "at"] (spTok fun t i => t[i]? = some 34))
    (PL : Pr P w K mg base 2 "place_token" ["sql", "at"] (spTok fun t i => ∃ c, t[i]? = some c ∧ c ∈ tl (Str.ofString "?:@$"))) : Pr P w K mg base 3 "token_at" ["sql", "at"] (spTok Clean) := by
  refine D.pr scTokenAt (fun vs H Q E h => ?_) (fun f cdv A outer s H vs Q E hr h => ?_)
  · obtain ⟨z, i, rfl, _⟩ := h
    rfl
  · obtain ⟨z, i, rfl, hi, hl, hC, k⟩ := h
    have nd := scTokenAt.nd
    obtain ⟨_, hDi⟩ := G.digits
    obtain ⟨_, hLe⟩ := G.letters
    obtain ⟨_, hSi⟩ := G.single
    obtain ⟨aD, hDo, hDq⟩ := G.double
    have hz := len_tl z
    have hr1 := hr.mono (show 1 ≤ 2 by decide)
    obtain ⟨c, hc, hc2⟩ := at_of hi
    obtain ⟨hC1, hC2, hC3⟩ : pre [45, 45] ((tl z).drop i) = false ∧ pre [47, 42] ((tl z).drop i) = false ∧ ∀ c, (tl z)[i]? = some c → c ≠ 32 ∧ c ≠ 10 := by
      rcases hC with q | q
      · omega
      · exact q
    refine ⟨_, (pss_cons (ps_asg (pe_item_str (pv 0) (pv 1) (fun _ _ => rfl)) (pg_name (i := 2) nd rfl (Or.inl rfl)))
      (pss_cons (ps_if (pt_cmpR op_in_sign (pv 2) (pe_gS rfl hLe) rfl)
        (pss_cons (ps_asg (pe_callP PR hr1 (by rfl) (pa_cons (pv 0) (pa_cons (pv 1) (pa_cons (pe_op op_add_str (pe_gS rfl hLe) (pe_gS rfl hDi)) pa_nil)))) (pg_name (i := 3) nd rfl (Or.inl rfl)))
        (pss_one (ps_ret (pe_tup (pa_cons pe_str (pa_cons (pe_slice sl_str (pv 0) (po_some (pv 1)) (po_some (pv 3))) (pa_cons (pv 1) (pa_cons (pv 3) pa_nil))))))))
        pss_nil)
      (pss_cons (ps_if (pt_cmpR op_in_sign (pv 2) (pe_gS rfl hDi) rfl)
        (pss_one (ps_ret (pe_callP PI hr (by rfl) (pa_cons (pv 0) (pa_cons (pv 1) pa_nil)))))
        pss_nil)
      (pss_cons (ps_if (pt_cmpR op_eq (pv 2) pe_str (nomark _))
        (pss_one (ps_ret (pe_callP PT hr1 (by rfl) (pa_cons (pv 0) (pa_cons (pv 1) pa_nil)))))
        pss_nil)
      (pss_cons (ps_if (pt_cmpR op_eq (pv 2) pe_str (nomark _))
        (pss_one (ps_ret (pe_callP PQ hr1 (by rfl) (pa_cons (pv 0) (pa_cons (pv 1) pa_nil)))))
        pss_nil)
      (pss_cons (ps_if (pt_cmpR op_in_sign (pv 2) pe_str rfl)
        (pss_one (ps_ret (pe_callP PL hr (by rfl) (pa_cons (pv 0) (pa_cons (pv 1) pa_nil)))))
        pss_nil)
      (pss_cons (ps_if (pt_cmpR op_in_seq (pe_slice sl_str (pv 0) (po_some (pv 1)) (po_some (pe_op op_add (pv 1) pe_int))) (pe_gR rfl hDo) (by rfl))
        (pss_one (ps_ret (pe_tup (pa_cons pe_str (pa_cons (pe_slice sl_str (pv 0) (po_some (pv 1)) (po_some (pe_op op_add (pv 1) pe_int))) (pa_cons (pv 1) (pa_cons (pe_op op_add (pv 1) pe_int) pa_nil)))))))
        pss_nil)
      (pss_one (ps_ret (pe_tup (pa_cons (pe_ifExp (pt_cmpR op_in_sign (pv 2) (pe_gS rfl hSi) rfl) pe_str pe_str) (pa_cons (pv 2) (pa_cons (pv 1) (pa_cons (pe_op op_add (pv 1) pe_int) pa_nil)))))))))))))), ?_⟩
    refine ⟨_, rfl, _, rfl, _, _, c, rfl, rfl, by omega, by omega, by omega, hc2, ?_⟩
    refine ⟨_, rfl, _, _, rfl, rfl, _, rfl, ?_⟩
    refine ite2 (fun hL => ?_) (fun _ => ?_)
    · have hL' : c ∈ tl (Str.ofString "abcdefghijklmnopqrstuvwxyzABCDEFGHIJKLMNOPQRSTUVWXYZ_") := of_decide_eq_true hL
      refine ⟨_, rfl, _, rfl, _, _, rfl, rfl, (by decide +kernel), z, _, i, rfl, by omega, hl, fun e h1 h2 hk hn => ?_⟩
      have hie : i < e := by
        by_cases q : e = i
        · subst q
          exact absurd (by rw [tl_append]; exact List.mem_append_left _ hL') (hn c hc)
        · omega
      refine ⟨_, rfl, _, rfl, _, rfl, _, rfl, _, rfl, _, rfl, big_ok hl, ?_⟩
      refine ⟨_, rfl, _, rfl, (by show 4 ≤ sizeLine; decide), fun p hp => ?_⟩
      refine k p _ _ _ e hp (same_new hp) upd_same (Step.run kd_name hie (by omega) fun k a b => ?_)
      obtain ⟨d, q1, q2⟩ := hk k a b
      exact ⟨d, q1, plain_both d q2⟩
    refine ⟨_, rfl, _, _, rfl, rfl, _, rfl, ?_⟩
    refine ite2 (fun hD => ?_) (fun _ => ?_)
    · exact ⟨_, rfl, _, rfl, z, i, rfl, hi, hl, ⟨c, hc, of_decide_eq_true hD⟩, k⟩
    refine ⟨_, rfl, rfl, _, rfl, ?_⟩
    refine ite2 (fun hq => ?_) (fun hq39 => ?_)
    · obtain rfl := (one_eq (x := "'") rfl).mp (of_decide_eq_true hq)
      exact ⟨_, rfl, _, rfl, z, i, rfl, hi, hl, hc, k⟩
    refine ⟨_, rfl, rfl, _, rfl, ?_⟩
    refine ite2 (fun hq => ?_) (fun hq34 => ?_)
    · obtain rfl := (one_eq (x := "\"") rfl).mp (of_decide_eq_true hq)
      exact ⟨_, rfl, _, rfl, z, i, rfl, hi, hl, hc, k⟩
    refine ⟨_, rfl, _, _, rfl, rfl, _, rfl, ?_⟩
    refine ite2 (fun hP => ?_) (fun _ => ?_)
    · exact ⟨_, rfl, _, rfl, z, i, rfl, hi, hl, ⟨c, hc, of_decide_eq_true hP⟩, k⟩
    refine ⟨_, rfl, _, rfl, _, rfl, _, rfl, _, _, rfl, rfl, _, rfl, _, rfl, big_ok hl, ?_⟩
    refine ⟨_, _, rfl, .inr (hDq _), rfl, rfl, _, rfl, ?_⟩
    refine ite2 (fun hin => ?_) (fun _ => ?_)
    · obtain ⟨a, b, et, pa, pb⟩ := in_double (x := cutS z (some (i : Int)) (some ((i + 2 : Nat) : Int))) hin
      rw [tl_cut2 z i (i + 2) (by omega), show i + 2 - i = 2 by omega] at et
      have et2 : pre [a, b] ((tl z).drop i) = true := by
        unfold pre
        rw [beq_iff_eq]
        exact et
      obtain ⟨q1, q2⟩ := pre_two.mp et2
      have hle : i + 1 < (tl z).length := (List.getElem?_eq_some_iff.mp q2).1
      refine ⟨_, rfl, _, rfl, _, rfl, _, rfl, _, _, rfl, rfl, _, rfl, _, rfl, big_ok hl, ?_⟩
      refine ⟨_, rfl, _, rfl, _, _, rfl, rfl, (by show 4 ≤ sizeLine; decide), fun p hp => ?_⟩
      refine k p _ _ _ (i + 2) hp (same_new hp) upd_same (Step.run ?_ (by omega) (by omega) fun k h1 h2 => ?_)
      · rintro ⟨_, q⟩
        have q' : tl (cutS z (some (i : Int)) (some ((i + 2 : Nat) : Int))) = tl (Str.ofString ";") := congrArg tl q
        rw [tl_cut2 z i (i + 2) (by omega), show i + 2 - i = 2 by omega, et, tl_ofString] at q'
        exact nomatch q'
      · by_cases q : k = i
        · exact ⟨a, by rw [q]; exact q1, pa⟩
        · exact ⟨b, by rw [show k = i + 1 by omega]; exact q2, pb⟩
    · have h39 : c ≠ 39 := fun q => hq39 (decide_eq_true ((one_eq (x := "'") rfl).mpr q))
      have h34 : c ≠ 34 := fun q => hq34 (decide_eq_true ((one_eq (x := "\"") rfl).mpr q))
      have hcc := hC3 c hc
      refine ⟨_, rfl, _, _, rfl, rfl, _, rfl, ?_⟩
      refine ite2 (fun hS => ?_) (fun hS => ?_)
      · refine ⟨_, rfl, _, rfl, _, rfl, _, _, rfl, rfl, (by show 4 ≤ sizeLine; decide), fun p hp => ?_⟩
        refine k p _ _ _ (i + 1) hp (same_new hp) upd_same (Step.one hc hC1 hC2 h39 h34 hcc.1 hcc.2 ⟨fun q => ⟨rfl, ?_⟩, fun q => ?_⟩)
        · exact V.str.inj ((one_eq (x := ";") rfl).mpr q)
        · exact (one_eq (x := ";") rfl).mp (congrArg V.str q.2)
      · refine ⟨_, rfl, _, rfl, _, rfl, _, _, rfl, rfl, (by show 4 ≤ sizeLine; decide), fun p hp => ?_⟩
        refine k p _ _ _ (i + 1) hp (same_new hp) upd_same (Step.one hc hC1 hC2 h39 h34 hcc.1 hcc.2 (iff_of_false (fun q => hS (decide_eq_true ?_)) kd_bad))
        rw [q]
        show 59 ∈ tl (Str.ofString "(),.;=<>+-*/")
        rw [tl_ofString]
        decide +kernel
/-! all tokens -/
def spTokens : Sp := fun vs H Q _ => ∃ z : Str, vs = [.str z] ∧ z.length ≤ 100000 ∧
  ∀ (L : Addr) (H' : Hp) (xs : List V) (b : Bool), H L = none → Same H H' → H' L = some (.lst xs) →
    (xs = [] ∧ b = false ∨ ∃ ys p kd tx i e, xs = ys ++ [.ref p] ∧ H' p = some (.tup [.str kd, .str tx, i, e]) ∧ (b = true ↔ (kd = Str.ofString "sign" ∧ tx = Str.ofString ";"))) →
    (b = true ↔ scan (tl z) 0 = 59) → Q (.ref L) H'
theorem scTokens : FnScope ["sql", "found", "at"] ["sql"] (defScope sTokens) := ⟨rfl, rfl, rfl, by decide +kernel, rfl, by decide +kernel, by decide +kernel⟩
theorem pr_tokens (D : Df K mg "tokens_of" sTokens ["sql"]) (T : Tx mg) (PB : Pr P w K mg base 1 "blank_end" ["sql", "at"] spBlank) (PK : Pr P w K mg base 3 "token_at" ["sql", "at"] (spTok Clean)) : Pr P w K mg base 4 "tokens_of" ["sql"] spTokens := by
  refine D.pr scTokens (fun vs H Q E h => ?_) (fun f cdv A outer s H vs Q E hr h => ?_)
  · obtain ⟨z, rfl, _⟩ := h
    rfl
  · obtain ⟨z, rfl, hl, k⟩ := h
    have nd := scTokens.nd
    have hz := len_tl z
    have hr1 := hr.mono (show 1 ≤ 3 by decide)
    refine ⟨_, (pss_cons (ps_asg (pe_lst pa_nil) (pg_name (i := 1) nd rfl (Or.inl rfl)))
      (pss_cons (ps_asg (pe_callP PB hr1 (by rfl) (pa_cons (pv 0) (pa_cons pe_int pa_nil))) (pg_name (i := 2) nd rfl (Or.inl rfl)))
      (Evl.pss_cut (ps_while PassesOwn.never (pt_cmpR op_lt (pv 2) (pe_callB call_len (by rfl) T.len PySem.boot_len (pa_cons (pv 0) pa_nil)) (nomark _))
        (pss_cons (ps_expr (pe_bm PySem.F.plainAttrs_list PySem.F.slot_list_append PySem.F.type_list_append mt_append (pv 1) (pa_cons (pe_callP PK hr (by rfl) (pa_cons (pv 0) (pa_cons (pv 2) pa_nil))) pa_nil)))
        (pss_one (ps_asg (pe_callP PB hr1 (by rfl) (pa_cons (pv 0) (pa_cons (pe_ix ix_tup (pe_ix ix_list (pv 1) (pe_un un_neg pe_int) (fun _ _ => rfl)) pe_int (fun _ _ => rfl)) pa_nil))) (pg_name (i := 2) nd rfl (Or.inl rfl))))))
      (pss_one (ps_ret (pv 1)))))), ?_⟩
    refine ⟨Nat.zero_le _, fun L hL => ?_⟩
    refine ⟨_, rfl, z, 0, rfl, Nat.zero_le _, by omega, fun e0 _ h2 hs0 hc0 => ?_⟩
    refine ⟨fun σ' H1 => ∃ (xs : List V) (b : Bool), σ' = [some (.str z), some (.ref L), some (.int z.length)] ∧ Same H H1 ∧ H1 L = some (.lst xs) ∧
      (xs = [] ∧ b = false ∨ ∃ ys p kd tx i e, xs = ys ++ [.ref p] ∧ H1 p = some (.tup [.str kd, .str tx, i, e]) ∧ (b = true ↔ (kd = Str.ofString "sign" ∧ tx = Str.ofString ";"))) ∧ (b = true ↔ scan (tl z) 0 = 59), ?_, ?_⟩
    · refine ⟨fun j σ H1 => ∃ (e : Nat) (xs : List V) (b : Bool) (l : Nat), σ = [some (.str z), some (.ref L), some (.int e)] ∧ e ≤ z.length ∧ j = z.length - e ∧ xs.length ≤ e ∧ Clean (tl z) e ∧ Same H H1 ∧ H1 L = some (.lst xs) ∧
        (xs = [] ∧ b = false ∨ ∃ ys p kd tx i e, xs = ys ++ [.ref p] ∧ H1 p = some (.tup [.str kd, .str tx, i, e]) ∧ (b = true ↔ (kd = Str.ofString "sign" ∧ tx = Str.ofString ";"))) ∧ scan (tl z) 0 = scan ((tl z).drop e) l ∧ (b = true ↔ l = 59),
        ⟨_, e0, [], false, 0, rfl, h2, rfl, Nat.zero_le _, hc0, same_new hL, upd_same, .inl ⟨rfl, rfl⟩, hs0 0, by simp⟩, ?_⟩
      rintro j σ H1 ⟨e, xs, b, l, rfl, he, rfl, hxe, hcl, sm, hx, hb, hs, hbl⟩
      refine ⟨_, rfl, _, rfl, _, _, rfl, ⟨big_ok (by omega), rfl⟩, _, _, rfl, rfl, _, rfl, ?_⟩
      refine ite2 (fun hlt => ?_) (fun hlt => ?_)
      · have hlt' : e < z.length := by
          have := of_decide_eq_true hlt
          omega
        refine ⟨fun σ' H2 => ∃ (e' : Nat) (xs : List V) (b : Bool) (l : Nat), σ' = [some (.str z), some (.ref L), some (.int e')] ∧ e < e' ∧ e' ≤ z.length ∧ xs.length ≤ e' ∧ Clean (tl z) e' ∧ Same H H2 ∧ H2 L = some (.lst xs) ∧
          (xs = [] ∧ b = false ∨ ∃ ys p kd tx i e, xs = ys ++ [.ref p] ∧ H2 p = some (.tup [.str kd, .str tx, i, e]) ∧ (b = true ↔ (kd = Str.ofString "sign" ∧ tx = Str.ofString ";"))) ∧ scan (tl z) 0 = scan ((tl z).drop e') l ∧ (b = true ↔ l = 59), ?_, ?_⟩
        · rintro σ' H2 ⟨e', xs', b', l', rfl, h1, h2, h3⟩
          exact ⟨z.length - e', by omega, e', xs', b', l', rfl, h2, rfl, h3⟩
        refine ⟨_, rfl, .inl ⟨rfl, _, SqL.of hx⟩, _, rfl, _, rfl, z, e, rfl, hlt', by omega, hcl, fun p H2 kd tx e2 hp s2 h2p st => ?_⟩
        obtain ⟨g1, g2, g3⟩ := st
        refine ⟨L, _, _, rfl, rfl, s2 _ _ hx, small6 (by omega), ?_⟩
        have npL : p ≠ L := fun q => by
          rw [q, hx] at hp
          cases hp
        have e6 : (upd H2 L (.lst (xs ++ [.ref p]))) p = some (.tup [.str kd, .str tx, .int e, .int e2]) := by
          rw [upd_ne npL]
          exact h2p
        refine ⟨_, rfl, _, rfl, _, rfl, _, _, _, _, rfl, rfl, SqL.of upd_same, atI_last _ _, _, _, _, _, rfl, rfl, SqT.of e6, rfl, ?_⟩
        refine ⟨z, e2, rfl, by omega, by omega, fun e3 h31 h32 hs3 hc3 => ?_⟩
        obtain ⟨c, gs, gb⟩ := g3 l
        have hnL : H L = none := hL
        refine ⟨e3, xs ++ [.ref p], decide (kd = Str.ofString "sign" ∧ tx = Str.ofString ";"), c, rfl, by omega, h32, by rw [List.length_append]; show _ + 1 ≤ _; omega, hc3, ?_, upd_same, .inr ⟨xs, p, kd, tx, _, _, rfl, e6, by simp⟩, ?_, ?_⟩
        · intro a o ha
          rw [upd_ne (ne_of_none ha hnL)]
          exact s2 _ _ (sm _ _ ha)
        · rw [hs, gs, hs3]
        · rw [decide_eq_true_iff]
          exact gb.symm
      · have hge : z.length ≤ e := by simpa using hlt
        have : e = z.length := by omega
        subst this
        refine ⟨xs, b, rfl, sm, hx, hb, ?_⟩
        rw [List.drop_eq_nil_of_le (by omega), scan_nil] at hs
        rw [hs]
        exact hbl
    · rintro σ' H1 ⟨xs, b, rfl, sm, hx, hb, hbs⟩
      exact ⟨_, rfl, k L H1 xs b hL sm hx hb hbs⟩
def spSemi : Sp := fun vs H Q _ => ∃ (p : Addr) (kd tx : Str) (i e : V) (b : Bool), vs = [.ref p] ∧ H p = some (.tup [.str kd, .str tx, i, e]) ∧ (b = true ↔ (kd = Str.ofString "sign" ∧ tx = Str.ofString ";")) ∧ Q (.bl b) H
theorem scSemi : FnScope ["token"] ["token"] (defScope sSemi) := ⟨rfl, rfl, rfl, by decide +kernel, rfl, by decide +kernel, by decide +kernel⟩
theorem pr_semi (D : Df K mg "is_semicolon" sSemi ["token"]) : Pr P w K mg base 1 "is_semicolon" ["token"] spSemi := by
  refine D.pr scSemi (fun vs H Q E h => ?_) (fun f cdv A outer s H vs Q E hr h => ?_)
  · obtain ⟨p, kd, tx, i, e, b, rfl, _⟩ := h
    rfl
  · obtain ⟨p, kd, tx, i, e, b, rfl, hp, hb, q⟩ := h
    refine ⟨_, (pss_one (ps_ret (pe_and (pe_cmpR op_eq (pe_ix ix_tup (pv 0) pe_int (fun _ _ => rfl)) pe_str (nomark _)) (pe_one (pe_cmpR op_eq (pe_ix ix_tup (pv 0) pe_int (fun _ _ => rfl)) pe_str (nomark _)))))), ?_⟩
    refine ⟨_, rfl, _, _, _, _, rfl, rfl, SqT.of hp, rfl, rfl, _, rfl, ?_⟩
    have inj : ∀ x y : Str, V.str x = V.str y ↔ x = y := fun x y => ⟨V.str.inj, congrArg V.str⟩
    refine ite2 (fun h1 => ?_) (fun h1 => ?_)
    · have h1' := (inj _ _).mp (of_decide_eq_true h1)
      refine ⟨_, rfl, _, _, _, _, rfl, rfl, SqT.of hp, rfl, rfl, ?_⟩
      have eb : b = decide (V.str tx = V.str (Str.ofString ";")) := by
        rw [Bool.eq_iff_iff, hb, decide_eq_true_iff, inj]
        exact ⟨fun h => h.2, fun h => ⟨h1', h⟩⟩
      rw [← eb]
      exact q
    · have h1' : kd ≠ Str.ofString "sign" := fun z => h1 (decide_eq_true ((inj _ _).mpr z))
      have eb : b = false := by
        rw [← Bool.not_eq_true]
        exact fun z => h1' (hb.mp z).1
      rw [eb] at q
      exact q
def spComplete : Sp := fun vs H Q _ => ∃ z : Str, vs = [.str z] ∧ z.length ≤ 100000 ∧ ∀ H', Same H H' → Q (.bl (decide (scan (tl z) 0 = 59))) H'
theorem scComplete : FnScope ["sql", "tokens"] ["sql"] (defScope sComplete) := ⟨rfl, rfl, rfl, by decide +kernel, rfl, by decide +kernel, by decide +kernel⟩
theorem pr_complete (D : Df K mg "complete_statement" sComplete ["sql"]) (T : Tx mg) (PK : Pr P w K mg base 4 "tokens_of" ["sql"] spTokens) (PS : Pr P w K mg base 1 "is_semicolon" ["token"] spSemi) : Pr P w K mg base 5 "complete_statement" ["sql"] spComplete := by
  refine D.pr scComplete (fun vs H Q E h => ?_) (fun f cdv A outer s H vs Q E hr h => ?_)
  · obtain ⟨z, rfl, _⟩ := h
    rfl
  · obtain ⟨z, rfl, hl, k⟩ := h
    have nd := scComplete.nd
    have hr1 := hr.mono (show 1 ≤ 4 by decide)
    refine ⟨_, (pss_cons (ps_asg (pe_callP PK hr (by rfl) (pa_cons (pv 0) pa_nil)) (pg_name (i := 1) nd rfl (Or.inl rfl)))
      (pss_one (ps_ret (pe_and (pe_cmpR op_gt (pe_callB call_len (by rfl) T.len PySem.boot_len (pa_cons (pv 1) pa_nil)) pe_int (nomark _)) (pe_one (pe_callP PS hr1 (by rfl) (pa_cons (pe_ix ix_list (pv 1) (pe_un un_neg pe_int) (fun _ _ => rfl)) pa_nil))))))), ?_⟩
    refine ⟨_, rfl, z, rfl, hl, fun L H1 xs b hL sm hx hb hbs => ?_⟩
    have eb : b = decide (scan (tl z) 0 = 59) := by
      rw [Bool.eq_iff_iff, hbs, decide_eq_true_iff]
    refine ⟨_, rfl, _, _, rfl, .inl ⟨_, SqL.of hx, rfl⟩, _, _, rfl, rfl, _, rfl, ?_⟩
    rcases hb with ⟨rfl, rfl⟩ | ⟨ys, p, kd, tx, i, e, rfl, hp, hb⟩
    · have := k H1 sm
      rw [← eb] at this
      exact this
    · rw [decide_eq_true (show (0 : Int) < ((ys ++ [V.ref p]).length : Int) by rw [List.length_append]; show (0 : Int) < ((_ + 1 : Nat) : Int); omega)]
      refine iteT ?_
      refine ⟨_, rfl, _, rfl, _, _, _, _, rfl, rfl, SqL.of hx, atI_last _ _, ?_⟩
      refine ⟨p, kd, tx, i, e, b, rfl, hp, hb, ?_⟩
      have := k H1 sm
      rw [← eb] at this
      exact this
end
end C63

set_option Elab.async false
set_option maxRecDepth 100000
set_option maxHeartbeats 4000000
set_option linter.all false
namespace C63
open PySem L2 My M63 TL
abbrev sEnds : Stmt := top 27
abbrev sLaw : Stmt := top 28
section
variable {P : Program} {w : World} {K : PySem.W.Frag} {mg : Str → Option Value} {base : Heap}
def spEnds : Sp := fun vs H Q _ => ∃ z : Str, vs = [.str z] ∧ z.length ≤ 100000 ∧ ∀ H', Same H H' → Q (.bl (decide (scan (tl z) 0 = 59))) H'
/-- the text y stands for the sign l, or for none -/
def Lst (y : Str) (l : Nat) : Prop := (y = Str.ofString "" ∧ l = 0) ∨ y = ⟨#[l]⟩
theorem Lst.semi {y : Str} {l : Nat} (h : Lst y l) : decide (V.str y = V.str (Str.ofString ";")) = decide (l = 59) := by
  rw [Bool.eq_iff_iff, decide_eq_true_iff, decide_eq_true_iff]
  rcases h with ⟨rfl, rfl⟩ | rfl
  · exact iff_of_false (fun q => absurd (V.str.inj q) (by decide +kernel)) (by decide)
  · exact one_eq (x := ";") rfl
theorem cut_eq {z : Str} {i c d : Nat} {x : String} (hi : i ≤ z.length) (hx : x.toList.map Char.toNat = [c, d]) : decide (V.str (cutS z (some (i : Int)) (some ((i + 2 : Nat) : Int))) = V.str (Str.ofString x)) = pre [c, d] ((tl z).drop i) := by
  rw [Bool.eq_iff_iff, decide_eq_true_iff]
  unfold pre
  rw [beq_iff_eq]
  show _ ↔ ((tl z).drop i).take 2 = _
  have e := tl_cut2 z i (i + 2) hi
  rw [show i + 2 - i = 2 by omega] at e
  rw [← e, ← hx, ← tl_ofString]
  exact ⟨fun q => congrArg tl (V.str.inj q), fun q => congrArg V.str (ext_tl q)⟩
theorem scEnds : FnScope ["_law_text", "_law_at", "_law_last", "_law_sign", "_law_end"] ["_law_text"] (defScope sEnds) := ⟨rfl, rfl, rfl, by decide +kernel, rfl, by decide +kernel, by decide +kernel⟩
theorem pr_ends (D : Df K mg "_law_ends_well" sEnds ["_law_text"]) (T : Tx mg) : Pr P w K mg base 1 "_law_ends_well" ["_law_text"] spEnds := by
  refine D.pr scEnds (fun vs H Q E h => ?_) (fun f cdv A outer s H vs Q E hr h => ?_)
  · obtain ⟨z, rfl, _⟩ := h
    rfl
  · obtain ⟨z, rfl, hl, k⟩ := h
    have nd := scEnds.nd
    have t10 : tl (Str.ofString "\n") = [10] := by rw [tl_ofString]; rfl
    have tes : tl (Str.ofString "*/") = [42, 47] := by rw [tl_ofString]; rfl
    have tqu : tl (Str.ofString "'\"") = [39, 34] := by rw [tl_ofString]; rfl
    have tbl : tl (Str.ofString " \n") = [32, 10] := by rw [tl_ofString]; rfl
    have hz := len_tl z
    have hl' : z.length ≤ 1000000 := by omega
    refine ⟨_, (Evl.pss_cut (ps_asg (pe_tup (pa_cons pe_int (pa_cons pe_str pa_nil))) (pg_tup rfl (pgs_cons (pg_name (i := 1) nd rfl (Or.inl rfl)) (pgs_cons (pg_name (i := 2) nd rfl (Or.inl rfl)) pgs_nil))))
      (Evl.pss_cut (ps_while PassesOwn.never (pt_cmpR op_lt (pv 1) (pe_callB call_len (by rfl) T.len PySem.boot_len (pa_cons (pv 0) pa_nil)) (nomark _))
        (pss_cons (ps_asg (pe_item_str (pv 0) (pv 1) (fun _ _ => rfl)) (pg_name (i := 3) nd rfl (Or.inl rfl)))
        (pss_one (ps_if (pt_cmpR op_eq (pe_slice sl_str (pv 0) (po_some (pv 1)) (po_some (pe_op op_add (pv 1) pe_int))) pe_str (nomark _))
          (pss_cons (ps_asg (pe_bm PySem.F.plainAttrs_str PySem.F.slot_str_find PySem.F.type_str_find mt_find3 (pv 0) (pa_cons pe_str (pa_cons (pv 1) pa_nil))) (pg_name (i := 4) nd rfl (Or.inl rfl)))
          (pss_one (ps_asg (pe_ifExp (pt_cmpR op_lt (pv 4) pe_int (nomark _)) (pe_callB call_len (by rfl) T.len PySem.boot_len (pa_cons (pv 0) pa_nil)) (pe_op op_add (pv 4) pe_int)) (pg_name (i := 1) nd rfl (Or.inl rfl)))))
          (pss_one (ps_if (pt_cmpR op_eq (pe_slice sl_str (pv 0) (po_some (pv 1)) (po_some (pe_op op_add (pv 1) pe_int))) pe_str (nomark _))
            (pss_cons (ps_asg (pe_bm PySem.F.plainAttrs_str PySem.F.slot_str_find PySem.F.type_str_find mt_find3 (pv 0) (pa_cons pe_str (pa_cons (pe_op op_add (pv 1) pe_int) pa_nil))) (pg_name (i := 4) nd rfl (Or.inl rfl)))
            (pss_one (ps_asg (pe_ifExp (pt_cmpR op_lt (pv 4) pe_int (nomark _)) (pe_callB call_len (by rfl) T.len PySem.boot_len (pa_cons (pv 0) pa_nil)) (pe_op op_add (pv 4) pe_int)) (pg_name (i := 1) nd rfl (Or.inl rfl)))))
            (pss_one (ps_if (pt_cmpR op_in_sign (pv 3) pe_str rfl)
              (pss_cons (ps_asg (pe_bm PySem.F.plainAttrs_str PySem.F.slot_str_find PySem.F.type_str_find mt_find3 (pv 0) (pa_cons (pv 3) (pa_cons (pe_op op_add (pv 1) pe_int) pa_nil))) (pg_name (i := 4) nd rfl (Or.inl rfl)))
              (pss_cons (ps_asg (pe_ifExp (pt_cmpR op_lt (pv 4) pe_int (nomark _)) (pe_callB call_len (by rfl) T.len PySem.boot_len (pa_cons (pv 0) pa_nil)) (pe_op op_add (pv 4) pe_int)) (pg_name (i := 1) nd rfl (Or.inl rfl)))
              (pss_one (ps_asg (pv 3) (pg_name (i := 2) nd rfl (Or.inl rfl))))))
              (pss_cons (ps_asg (pe_ifExp (pt_cmpR op_notIn_sign (pv 3) pe_str rfl) (pv 3) (pv 2)) (pg_name (i := 2) nd rfl (Or.inl rfl)))
              (pss_one (ps_asg (pe_op op_add (pv 1) pe_int) (pg_name (i := 1) nd rfl (Or.inl rfl)))))))))))))
      (pss_one (ps_ret (pe_cmpR op_eq (pv 2) pe_str (nomark _)))))), ?_⟩
    refine ⟨fun σ' H0 => Same H H0 ∧ σ' = [some (.str z), some (.int 0), some (.str (Str.ofString "")), none, none], ?_, ?_⟩
    · exact ⟨(by show 2 ≤ sizeLine; decide), fun p hp => ⟨_, _, rfl, SqT.of upd_same, rfl, _, _, rfl, _, _, rfl, rfl, same_new hp, rfl⟩⟩
    rintro σ0 H0 ⟨sm, rfl⟩
    refine ⟨fun σ' H1 => H1 = H0 ∧ ∃ (y : Str) (l : Nat) (o3 o4 : Option V), σ' = [some (.str z), some (.int z.length), some (.str y), o3, o4] ∧ Lst y l ∧ scan (tl z) 0 = l, ?_, ?_⟩
    · refine ⟨fun j σ H1 => H1 = H0 ∧ ∃ (e : Nat) (y : Str) (l : Nat) (o3 o4 : Option V), σ = [some (.str z), some (.int e), some (.str y), o3, o4] ∧ e ≤ z.length ∧ j = z.length - e ∧ Lst y l ∧ scan (tl z) 0 = scan ((tl z).drop e) l, ⟨_, rfl, 0, _, 0, _, _, rfl, Nat.zero_le _, rfl, .inl ⟨rfl, rfl⟩, rfl⟩, ?_⟩
      rintro j σ H1 ⟨rfl, e, y, l, o3, o4, rfl, he, rfl, hy, hs⟩
      refine ⟨_, rfl, _, rfl, _, _, rfl, ⟨big_ok hl', rfl⟩, _, _, rfl, rfl, _, rfl, ?_⟩
      refine ite2 (fun hlt => ?_) (fun hlt => ?_)
      · have hlt' : e < z.length := by
          have := of_decide_eq_true hlt
          omega
        obtain ⟨c, hc, hc2⟩ := at_of hlt'
        refine ⟨fun σ' H' => H' = H1 ∧ ∃ (e' : Nat) (y : Str) (l : Nat) (o3 o4 : Option V), σ' = [some (.str z), some (.int e'), some (.str y), o3, o4] ∧ e < e' ∧ e' ≤ z.length ∧ Lst y l ∧ scan (tl z) 0 = scan ((tl z).drop e') l, ?_, ?_⟩
        · rintro σ' H' ⟨rfl, e', y', l', o3', o4', rfl, h3, h4, h5, h6⟩
          exact ⟨z.length - e', by omega, rfl, e', y', l', o3', o4', rfl, h4, rfl, h5, h6⟩
        refine ⟨_, rfl, _, rfl, _, _, c, rfl, rfl, by omega, by omega, by omega, hc2, ?_⟩
        refine ⟨_, rfl, _, rfl, _, rfl, _, rfl, _, _, rfl, rfl, _, rfl, _, rfl, big_ok hl', rfl, _, rfl, ?_⟩
        have ce1 := cut_eq (z := z) (i := e) (c := 45) (d := 45) (x := "--") (by omega) rfl
        have ce2 := cut_eq (z := z) (i := e) (c := 47) (d := 42) (x := "/*") (by omega) rfl
        refine ite2 (fun hd => ?_) (fun hd => ?_)
        · have hd' : pre [45, 45] ((tl z).drop e) = true := ce1.symm.trans hd
          refine ⟨_, rfl, rfl, _, rfl, _, _, _, rfl, rfl, ?_⟩
          rcases find_spec z (Str.ofString "\n") (by rw [t10]; simp) e with ⟨ef, hn⟩ | ⟨j, ef, hj, hp, hn⟩
          · rw [ef]
            refine ⟨_, rfl, _, _, rfl, rfl, _, rfl, ?_⟩
            refine iteT ⟨_, rfl, _, _, rfl, ⟨big_ok hl', rfl⟩, rfl, z.length, y, l, _, _, rfl, by omega, Nat.le_refl _, hy, ?_⟩
            rw [t10] at hn
            rw [hs, scan_dashes hd', afterC_none (tl z).length e (by omega) hn, List.drop_eq_nil_of_le (by omega)]
          · rw [ef]
            rw [t10] at hn hp
            have hjl : j < z.length := by
              have := (List.getElem?_eq_some_iff.mp (pre_one.mp hp)).1
              omega
            refine ⟨_, rfl, _, _, rfl, rfl, _, rfl, ?_⟩
            rw [decide_eq_false (show ¬ ((j : Int) < 0) by omega)]
            refine iteF ⟨_, rfl, _, _, rfl, rfl, rfl, j + 1, y, l, _, _, rfl, by omega, by omega, hy, ?_⟩
            rw [hs, scan_dashes hd']
            have q := afterC_at (c := 10) (t := tl z) (j - e) e (by rw [show e + (j - e) = j by omega]; exact hp) fun k a b => hn k a (by omega)
            rw [q]
            congr 1
            congr 1
            omega
        · have hd' : pre [45, 45] ((tl z).drop e) = false := by
            rw [← Bool.not_eq_true, ← ce1]
            exact hd
          refine ⟨_, rfl, _, rfl, _, rfl, _, rfl, _, _, rfl, rfl, _, rfl, _, rfl, big_ok hl', rfl, _, rfl, ?_⟩
          refine ite2 (fun hd2 => ?_) (fun hd2 => ?_)
          · have hd2' : pre [47, 42] ((tl z).drop e) = true := ce2.symm.trans hd2
            refine ⟨_, rfl, rfl, _, rfl, _, _, rfl, rfl, _, _, _, rfl, rfl, ?_⟩
            have e2 : ((e : Int) + 2) = ((e + 2 : Nat) : Int) := by omega
            rw [e2]
            rcases find_spec z (Str.ofString "*/") (by rw [tes]; simp) (e + 2) with ⟨ef, hn⟩ | ⟨j, ef, hj, hp, hn⟩
            · rw [ef]
              refine ⟨_, rfl, _, _, rfl, rfl, _, rfl, ?_⟩
              refine iteT ⟨_, rfl, _, _, rfl, ⟨big_ok hl', rfl⟩, rfl, z.length, y, l, _, _, rfl, by omega, Nat.le_refl _, hy, ?_⟩
              rw [tes] at hn
              rw [hs, scan_slash hd2', afterE_none (tl z).length (e + 2) (by omega) hn, List.drop_eq_nil_of_le (by omega)]
            · rw [ef]
              rw [tes] at hn hp
              have hjl : j + 1 < z.length := by
                have := (List.getElem?_eq_some_iff.mp (pre_two.mp hp).2).1
                omega
              refine ⟨_, rfl, _, _, rfl, rfl, _, rfl, ?_⟩
              rw [decide_eq_false (show ¬ ((j : Int) < 0) by omega)]
              refine iteF ⟨_, rfl, _, _, rfl, rfl, rfl, j + 2, y, l, _, _, rfl, by omega, by omega, hy, ?_⟩
              rw [hs, scan_slash hd2']
              have q := afterE_at (t := tl z) (j - (e + 2)) (e + 2) (by rw [show e + 2 + (j - (e + 2)) = j by omega]; exact hp) fun k a b => hn k a (by omega)
              rw [q]
              congr 1
              congr 1
              omega
          · have hd2' : pre [47, 42] ((tl z).drop e) = false := by
              rw [← Bool.not_eq_true, ← ce2]
              exact hd2
            refine ⟨_, rfl, _, _, rfl, rfl, _, rfl, ?_⟩
            refine ite2 (fun hq => ?_) (fun hq => ?_)
            · have hq' : c = 39 ∨ c = 34 := by
                have : c ∈ tl (Str.ofString "'\"") := of_decide_eq_true hq
                rw [tqu] at this
                simpa using this
              refine ⟨_, rfl, rfl, _, rfl, _, rfl, _, _, rfl, rfl, _, _, _, rfl, rfl, ?_⟩
              have e2 : ((e : Int) + 1) = ((e + 1 : Nat) : Int) := by omega
              rw [e2]
              have tc : tl (⟨#[c]⟩ : Str) = [c] := rfl
              rcases find_spec z ⟨#[c]⟩ (by rw [tc]; simp) (e + 1) with ⟨ef, hn⟩ | ⟨j, ef, hj, hp, hn⟩
              · rw [ef]
                refine ⟨_, rfl, _, _, rfl, rfl, _, rfl, ?_⟩
                refine iteT ⟨_, rfl, _, _, rfl, ⟨big_ok hl', rfl⟩, _, rfl, rfl, z.length, _, c, _, _, rfl, by omega, Nat.le_refl _, .inr rfl, ?_⟩
                rw [tc] at hn
                rw [hs, scan_quote hc hq', afterC_none (tl z).length (e + 1) (by omega) hn, List.drop_eq_nil_of_le (by omega)]
              · rw [ef]
                rw [tc] at hn hp
                have hjl : j < z.length := by
                  have := (List.getElem?_eq_some_iff.mp (pre_one.mp hp)).1
                  omega
                refine ⟨_, rfl, _, _, rfl, rfl, _, rfl, ?_⟩
                rw [decide_eq_false (show ¬ ((j : Int) < 0) by omega)]
                refine iteF ⟨_, rfl, _, _, rfl, rfl, _, rfl, rfl, j + 1, _, c, _, _, rfl, by omega, by omega, .inr rfl, ?_⟩
                rw [hs, scan_quote hc hq']
                have q := afterC_at (c := c) (t := tl z) (j - (e + 1)) (e + 1) (by rw [show e + 1 + (j - (e + 1)) = j by omega]; exact hp) fun k a b => hn k a (by omega)
                rw [q]
                congr 1
                congr 1
                omega
            · have hq' : c ≠ 39 ∧ c ≠ 34 := by
                have hb2 : c ∉ tl (Str.ofString "'\"") := fun q => hq (decide_eq_true q)
                rw [tqu] at hb2
                simpa using hb2
              refine ⟨_, rfl, _, _, rfl, rfl, _, rfl, ?_⟩
              by_cases hb : c ∈ tl (Str.ofString " \n")
              · rw [decide_eq_true hb]
                rw [tbl] at hb
                have hb' : c = 32 ∨ c = 10 := by simpa using hb
                refine iteF ⟨_, rfl, _, rfl, _, _, rfl, rfl, rfl, e + 1, y, l, _, _, rfl, by omega, by omega, hy, ?_⟩
                rw [hs, scan_blank hc hb']
              · rw [decide_eq_false hb]
                rw [tbl] at hb
                have hb' : c ≠ 32 ∧ c ≠ 10 := by simpa using hb
                refine iteT ⟨_, rfl, _, rfl, _, _, rfl, rfl, rfl, e + 1, _, c, _, _, rfl, by omega, by omega, .inr rfl, ?_⟩
                rw [hs, scan_sign hc hd' hd2' hq'.1 hq'.2 hb'.1 hb'.2]
      · have hge : z.length ≤ e := by simpa using hlt
        have : e = z.length := by omega
        subst this
        rw [List.drop_eq_nil_of_le (by omega), scan_nil] at hs
        exact ⟨rfl, y, l, o3, o4, rfl, hy, hs⟩
    · rintro σ' H1 ⟨rfl, y, l, o3, o4, rfl, hy, hs⟩
      refine ⟨_, rfl, rfl, ?_⟩
      rw [hy.semi, ← hs]
      exact k _ sm
end
end C63

set_option Elab.async false
set_option maxRecDepth 100000
set_option maxHeartbeats 4000000
set_option linter.all false
namespace C63
open PySem L2 My M63 TL
def someS : List String := [";", ";", ";", " ", "\n", "select", "1", "a", "'x;'", "'", "\"n;\"", "-- c;", "--", "/* ; */", "/*", "&", "*/", "/", "-", "#", "''", "'it''s'", "?", ":a", "!", "<=", "(", ")", "create trigger", "end"]
def someV : List V := someS.map fun s => V.str (Str.ofString s)
theorem some_in {x : V} (h : x ∈ someV) : ∃ y : Str, x = .str y ∧ y.length ≤ 20 := by
  obtain ⟨s, hs, rfl⟩ := List.mem_map.mp h
  exact ⟨_, rfl, (by decide +kernel : ∀ s, s ∈ someS → (Str.ofString s).length ≤ 20) s hs⟩
theorem scan1 : scan (tl (Str.ofString "select 1;")) 0 = 59 := by
  rw [tl_ofString]
  show scan [115, 101, 108, 101, 99, 116, 32, 49, 59] 0 = 59
  simp [scan_cons, scan_nil]
theorem scan2 : scan (tl (Str.ofString "select 1")) 0 ≠ 59 := by
  rw [tl_ofString]
  show scan [115, 101, 108, 101, 99, 116, 32, 49] 0 ≠ 59
  simp [scan_cons, scan_nil]
theorem sum_le : ∀ {ys : List Str} {b : Nat}, (∀ y, y ∈ ys → y.length ≤ b) → (ys.map (·.length)).sum ≤ ys.length * b
  | [], _, _ => by simp
  | y :: ys, b, h => by
    have h1 := h y (List.mem_cons_self ..)
    have h2 := sum_le (ys := ys) (b := b) fun z hz => h z (List.mem_cons_of_mem _ hz)
    rw [List.map_cons, List.sum_cons, List.length_cons, Nat.add_mul]
    omega
section
variable {P : Program} {w : World} {K : PySem.W.Frag} {mg : Str → Option Value} {base : Heap}
def spLaw (K : PySem.W.Frag) : Sp := fun vs H Q _ => ∃ (a : Addr) (ns : List Int), vs = [.ref a] ∧ SqL K H a (ns.map V.int) ∧ ns.length ≤ 63 ∧ ∀ H', Q (.bl true) H'
abbrev nLaw : List Str := ["_law_script", "_law_state", "_law_some", "_law_turn", "_law_text", "_law_k"]
theorem scLaw : FnScope nLaw ["_law_script"] (defScope sLaw) := ⟨rfl, rfl, rfl, by decide +kernel, rfl, by decide +kernel, by decide +kernel⟩
theorem ok_law {f : Addr} {fd : FuncData} (F : Fun K "law" "law" sLaw f fd) (mr : mg "range" = none) (PF : Pr P w K mg base 1 "_law_fresh" ["_law_script"] (spFresh K)) (PT : Pr P w K mg base 2 "_law_take" ["_law_state", "_law_many"] spTake)
    (PO : Pr P w K mg base 3 "_law_one" ["_law_state", "_law_things"] (spOne K)) (PS : Pr P w K mg base 2 "_law_same" ["_law_found", "_law_due"] (spSame 1)) (PC : Pr P w K mg base 5 "complete_statement" ["sql"] spComplete)
    (PW : Pr P w K mg base 1 "_law_ends_well" ["_law_text"] spEnds) : FnOk P w K mg base CX0 6 f fd ["_law_script"] (spLaw K) := by
  refine F.ok scLaw (fun vs H Q E h => ?_) (fun cdv A outer s H vs Q E hr h => ?_)
  · obtain ⟨a, ns, rfl, _⟩ := h
    rfl
  · obtain ⟨a, ns, rfl, hS, hlen, k⟩ := h
    have nd := scLaw.nd
    have hr1 := hr.mono (show 1 ≤ 5 by decide)
    have hr2 := hr.mono (show 2 ≤ 5 by decide)
    have hr3 := hr.mono (show 3 ≤ 5 by decide)
    refine ⟨_, (pss_cons (ps_asg (pe_callP PF hr1 (by rfl) (pa_cons (pv 0) pa_nil)) (pg_name (i := 1) nd rfl (Or.inr rfl)))
      (pss_cons (ps_asg (pe_lst (pa_cons pe_str (pa_cons pe_str (pa_cons pe_str (pa_cons pe_str (pa_cons pe_str (pa_cons pe_str (pa_cons pe_str (pa_cons pe_str (pa_cons pe_str (pa_cons pe_str (pa_cons pe_str (pa_cons pe_str (pa_cons pe_str (pa_cons pe_str (pa_cons pe_str (pa_cons pe_str pa_nil))))))))))))))))) (pg_name (i := 2) nd rfl (Or.inr rfl)))
      (Evl.pss_cut (ps_asg (pe_op op_cat (pv 2) (pe_lst (pa_cons pe_str (pa_cons pe_str (pa_cons pe_str (pa_cons pe_str (pa_cons pe_str (pa_cons pe_str (pa_cons pe_str (pa_cons pe_str (pa_cons pe_str (pa_cons pe_str (pa_cons pe_str (pa_cons pe_str (pa_cons pe_str (pa_cons pe_str pa_nil)))))))))))))))) (pg_name (i := 2) nd rfl (Or.inr rfl)))
      (pss_cons (ps_for PassesOwn.never rfl (pi_range1 rfl mr (pa_cons (pe_op op_add pe_int (pe_callP PT hr2 (by rfl) (pa_cons (pv 1) (pa_cons pe_int pa_nil)))) pa_nil)) (pg_name (i := 3) nd rfl (Or.inl rfl))
        (pss_cons (ps_asg (pe_repl1 (pe1_bm PySem.F.plainAttrs_str PySem.F.slot_str_join PySem.F.type_str_join mt_join (pa_cons (pe_lc (own := [("_law_k", 5)]) (g := gName 5) (tt := tYes) (by rfl) nd (pi_range1 rfl mr (pa_cons (pe_callP PT hr2 (by rfl) (pa_cons (pv 1) (pa_cons pe_int pa_nil))) pa_nil))
  (blkOk_by (own := [("_law_k", 5)]) (N := nLaw) (sc := defScope sLaw) (by decide +kernel))
  (fun _ _ _ _ _ => pg_name (i := 5) nd rfl (Or.inl rfl)) (fun _ _ _ _ _ => pts_nil)
  (fun _ _ _ _ _ => (pe_callP PO hr3 (by rfl) (pa_cons (pv 1) (pa_cons (pv 2) pa_nil))))) pa_nil))) (pg_name (i := 4) nd rfl (Or.inl rfl)))
        (pss_cons (ps_asg (pe_op op_add_str (pv 4) (pe_callP PO hr3 (by rfl) (pa_cons (pv 1) (pa_cons (pe_lst (pa_cons pe_str (pa_cons pe_str (pa_cons pe_str (pa_cons pe_str (pa_cons pe_str pa_nil)))))) pa_nil)))) (pg_name (i := 4) nd rfl (Or.inl rfl)))
        (pss_one (ps_if (pt_not (pt_val (pe_callP PS hr2 (by rfl) (pa_cons (pe_callP PC hr (by rfl) (pa_cons (pv 4) pa_nil)) (pa_cons (pe_callP PW hr1 (by rfl) (pa_cons (pv 4) pa_nil)) pa_nil)))))
          (pss_one (ps_ret pe_bl))
          pss_nil)))))
      (pss_one (ps_ret (pe_callP PS hr2 (by rfl) (pa_cons (pe_lst (pa_cons (pe_callP PC hr (by rfl) (pa_cons pe_str pa_nil)) (pa_cons (pe_callP PC hr (by rfl) (pa_cons pe_str pa_nil)) pa_nil))) (pa_cons (pe_lst (pa_cons pe_bl (pa_cons pe_bl pa_nil))) pa_nil))))))))), ?_⟩
    refine ⟨_, rfl, a, ns, rfl, hS, hlen, fun st c H1 nst nc dr sm => ?_⟩
    refine ⟨(by show 16 ≤ sizeLine; decide), fun l1 hl1 => ?_⟩
    refine ⟨fun σ' H2 => ∃ so, so ≠ st ∧ σ' = [some (.ref a), some (.ref st), some (.ref so), none, none, none] ∧ Drw H2 st c ns ∧ H2 so = some (.lst someV), ?_, ?_⟩
    · refine ⟨_, rfl, (by show 14 ≤ sizeLine; decide), fun l2 hl2 => ?_⟩
      refine ⟨_, _, _, _, rfl, rfl, Eq.trans (upd_ne (fun q => by rw [← q, upd_same] at hl2; cases hl2)) upd_same, upd_same, (by show 30 ≤ sizeLine; decide), fun so hso => ?_⟩
      have d1 := (dr.new (o := .lst [.str (Str.ofString ";")]) hl1)
      have d3 := (((dr.new (o := _) hl1).new (o := _) hl2).new (o := .lst someV) hso)
      refine ⟨so, ?_, rfl, d3, upd_same⟩
      obtain ⟨_, _, _, _, _, hst⟩ := (dr.new (o := _) hl1).new (o := _) hl2
      exact fun q => by
        rw [q, hst] at hso
        cases hso
    · rintro σ' H2 ⟨so, nso, rfl, d2, hso⟩
      refine ⟨_, rfl, st, c, ns, 13, rfl, d2, hlen, by decide, by decide, fun d H3 d0 d1 d3 b3 => ?_⟩
      refine ⟨_, _, rfl, rfl, _, rfl, by omega, by omega, ?_⟩
      refine for_range (fun i σ H4 => (∃ o3 o4, σ = [some (.ref a), some (.ref st), some (.ref so), o3, o4, none]) ∧ Drw H4 st c ns ∧ H4 so = some (.lst someV)) ⟨⟨_, _, rfl⟩, d3, b3 _ _ hso nso⟩ ?_ ?_
      · rintro i σ H4 hi ⟨⟨o3, o4, rfl⟩, d4, hs4⟩
        refine ⟨rfl, _, rfl, st, c, ns, 9, rfl, d4, hlen, by decide, by decide, fun d' H5 d0' d1' d5 b5 => ?_⟩
        refine ⟨_, rfl, by omega, by omega, fun Dl hD => ?_⟩
        have hs5 := b5 _ _ hs4 nso
        refine lc_range (fun j H6 => ∃ ys : List Str, ys.length = j ∧ (∀ y, y ∈ ys → y.length ≤ 20) ∧ H6 Dl = some (.lst (ys.map V.str)) ∧ Drw H6 st c ns ∧ H6 so = some (.lst someV) ∧ Dl ≠ st ∧ Dl ≠ c ∧ Dl ≠ so) ?_ ?_ ?_
        · have hst5 := d5.2.choose_spec.choose_spec.choose_spec.2
          refine ⟨[], rfl, fun y hy => (List.not_mem_nil hy).elim, upd_same, d5.new hD, by rw [upd_ne (ne_of_none hs5 hD)]; exact hs5, fun q => ?_, fun q => ?_, fun q => ?_⟩
          · rw [q, hst5] at hD
            cases hD
          · rw [q, d5.1] at hD
            cases hD
          · rw [q, hs5] at hD
            cases hD
        · rintro j H6 hj ⟨ys, hy, hb, hl6, d6, hs6, n1, n2, n3⟩
          refine ⟨rfl, ?_⟩
          refine ⟨_, rfl, _, rfl, st, c, so, ns, someV, rfl, d6, hlen, nso, .inl (SqL.of hs6), by decide, by decide, fun x H7 hx d7 b7 => ?_⟩
          obtain ⟨y, rfl, hyl⟩ := some_in hx
          refine ⟨_, b7 _ _ hl6 n1, ?_, ys ++ [y], ?_, ?_, ?_, ?_, ?_, n1, n2, n3⟩
          · rw [List.length_map]
            exact small6 (by omega)
          · rw [List.length_append]
            show _ + 1 = _
            omega
          · intro z hz
            rcases List.mem_append.mp hz with h | h
            · exact hb z h
            · rw [List.mem_singleton.mp h]
              exact hyl
          · rw [upd_same, List.map_append]
            rfl
          · obtain ⟨q1, q2, q3, q4, q5, q6⟩ := d7
            exact ⟨by rw [upd_ne n2.symm]; exact q1, q2, q3, q4, q5, by rw [upd_ne n1.symm]; exact q6⟩
          · rw [upd_ne n3.symm]
            exact b7 _ _ hs6 nso
        · rintro H6 ⟨ys, hy, hb, hl6, d6, hs6, n1, n2, n3⟩
          have hsum := sum_le hb
          have h8 : ys.length ≤ 8 := by omega
          have hmul : ys.length * 20 ≤ 160 := by omega
          refine ⟨_, _, ys, rfl, rfl, .inl (SqL.of hl6), ?_, ?_⟩
          · show _ + ys.length * 0 ≤ _
            omega
          have hj : (Txt.join (Str.ofString "") ys).length ≤ 160 := by
            show (Builtin.Str.glued (Str.ofString "") ys).length ≤ 160
            rw [size_glued]
            show _ + _ * 0 ≤ _
            omega
          generalize Txt.join (Str.ofString "") ys = jt at hj
          refine ⟨_, rfl, ?_, ?_⟩
          · show _ + (_ + 1) * 3 ≤ _
            omega
          have hrl := TK.replace_len jt (Str.ofString "\"\"") (Str.ofString "\" \"")
          have hrl2 : (Txt.replace jt (Str.ofString "\"\"") (Str.ofString "\" \"")).length ≤ 700 := by
            refine Nat.le_trans hrl ?_
            show _ + (_ + 1) * 3 ≤ _
            omega
          generalize Txt.replace jt (Str.ofString "\"\"") (Str.ofString "\" \"") = rt at hrl2
          refine ⟨_, rfl, _, rfl, (by show 5 ≤ sizeLine; decide), fun l5 hl5 => ?_⟩
          have hst6 := d6.2.choose_spec.choose_spec.choose_spec.2
          have n5 : l5 ≠ st := fun q => by
            rw [q, hst6] at hl5
            cases hl5
          refine ⟨st, c, l5, ns, _, rfl, d6.new hl5, hlen, n5, .inl (SqL.of upd_same), (by show 0 < 5; decide), (by show 5 ≤ 10000; decide), fun x H7 hx d7 b7 => ?_⟩
          obtain ⟨y, rfl, hyl⟩ : ∃ y : Str, x = .str y ∧ y.length ≤ 20 := by
            have hx2 : x ∈ (["", "", "", " \"", " \"open;"] : List String).map fun s => V.str (Str.ofString s) := hx
            obtain ⟨s, hs, rfl⟩ := List.mem_map.mp hx2
            exact ⟨_, rfl, (by decide +kernel : ∀ s, s ∈ (["", "", "", " \"", " \"open;"] : List String) → (Str.ofString s).length ≤ 20) s hs⟩
          have hs7 : H7 so = some (.lst someV) := b7 _ _ (by rw [upd_ne (ne_of_none hs6 hl5)]; exact hs6) nso
          refine ⟨_, _, rfl, rfl, big_ok (by omega), ?_⟩
          have htl : (rt ++ y).length ≤ 100000 := by
            rw [len_app]
            omega
          generalize rt ++ y = tt at htl
          refine ⟨_, rfl, tt, rfl, htl, fun H8 s8 => ?_⟩
          refine ⟨_, rfl, tt, rfl, htl, fun H9 s9 => ?_⟩
          have d9 : Drw H9 st c ns := by
            obtain ⟨q1, q2, q3, q4, q5, q6⟩ := d7
            exact ⟨s9 _ _ (s8 _ _ q1), q2, q3, q4, q5, s9 _ _ (s8 _ _ q6)⟩
          refine ⟨st, _, _, _, _, rfl, d9.2.choose_spec.choose_spec.choose_spec.2, .bl _, .bl _, .bl 1 _, fun H10 s10 => ?_⟩
          refine ⟨_, rfl, iteF ?_⟩
          obtain ⟨q1, q2, q3, q4, q5, q6⟩ := d9
          exact ⟨⟨_, _, rfl⟩, ⟨s10 _ _ q1, q2, q3, q4, q5, s10 _ _ q6⟩, s10 _ _ (s9 _ _ (s8 _ _ hs7))⟩
      · rintro σ H4 ⟨⟨o3, o4, rfl⟩, d4, hs4⟩
        refine ⟨_, rfl, by decide +kernel, fun H5 s5 => ?_⟩
        refine ⟨_, rfl, by decide +kernel, fun H6 s6 => ?_⟩
        refine ⟨(by show 2 ≤ sizeLine; decide), fun l1 hl1 => ⟨(by show 2 ≤ sizeLine; decide), fun l2 hl2 => ?_⟩⟩
        have hst4 := d4.2.choose_spec.choose_spec.choose_spec.2
        have hst6 := s6 _ _ (s5 _ _ hst4)
        have n1 : l1 ≠ st := fun q => by
          rw [q, hst6] at hl1
          cases hl1
        have hst7 := same_new (o := .lst [.bl (decide (scan (tl (Str.ofString "select 1;")) 0 = 59)), .bl (decide (scan (tl (Str.ofString "select 1")) 0 = 59))]) hl1 _ _ hst6
        have n2 : l2 ≠ st := fun q => by
          rw [q, hst7] at hl2
          cases hl2
        have n12 : l1 ≠ l2 := fun q => by
          rw [← q, upd_same] at hl2
          cases hl2
        refine ⟨st, .ref l1, .ref l2, .list [.bool true, .bool false], _, rfl, same_new hl2 _ _ hst7, ?_, ?_, ?_, fun H7 s7 => k H7⟩
        · refine .lst n1 (Eq.trans (upd_ne n12) upd_same) ?_
          rw [decide_eq_true scan1, decide_eq_false scan2]
          exact .cons (.bl _) (.cons (.bl _) .nil)
        · exact .lst n2 upd_same (.cons (.bl _) (.cons (.bl _) .nil))
        · refine .lst (by decide) fun x hx => ?_
          simp only [List.mem_cons, List.not_mem_nil, or_false] at hx
          rcases hx with rfl | rfl
          · exact .bl _ _
          · exact .bl _ _
end
end C63

set_option Elab.async false
set_option maxRecDepth 100000
set_option maxHeartbeats 4000000
set_option linter.all false
namespace C63
open PySem L2 My M63 TL
theorem df_mk {K : PySem.W.Frag} {h : Heap} {mg : Str → Option Value} {x : Str} {st : Stmt} {ps : List Str} {f : Addr} {oc : Value} {od an : Option Addr} {osl : Array (Option Value)} {kV doc pm cdv ct : Value} (X : K.In h) (G : h.Ns mainGlobals mg)
    (a : PySem.W.nsIn K mainGlobals x = some (some (.ref f))) (l : K.lookup f = some ⟨oc, od, .func (PySem.W.fnOf x x (defArgs st) (defBody st) (defScope st) .none kV doc pm an cdv ct), osl⟩) (c : PySem.W.codeIn K cdv x = true) (k : PySem.W.keepIn K (.ref f) = true)
    (hb : ∀ (kV doc pm : Value) (an : Option Addr) (cdv ct : Value) (us : List Value), us.length = ps.length → bindArgs (PySem.W.fnOf x x (defArgs st) (defBody st) (defScope st) .none kV doc pm an cdv ct) ⟨us, []⟩ = pure (ps.zip us)) : Df K mg x st ps :=
  ⟨f, _, fun_mk l c k, (fun_mk (st := st) l c k).binds hb, PySem.W.mg_of X G a⟩
theorem all_mk {l : PySem.W.OpenLaw} {w : World} {K : PySem.W.Frag} {h : Heap} {mg : Str → Option Value} {fa : Addr} {f0 : Addr} {oc0 kV0 dc0 pm0 cd0 ct0 : Value} {od0 an0 : Option Addr} {sl0 : Array (Option Value)} {f1 : Addr} {oc1 kV1 dc1 pm1 cd1 ct1 : Value} {od1 an1 : Option Addr} {sl1 : Array (Option Value)} {f2 : Addr} {oc2 kV2 dc2 pm2 cd2 ct2 : Value} {od2 an2 : Option Addr} {sl2 : Array (Option Value)} {f3 : Addr} {oc3 kV3 dc3 pm3 cd3 ct3 : Value} {od3 an3 : Option Addr} {sl3 : Array (Option Value)} {f4 : Addr} {oc4 kV4 dc4 pm4 cd4 ct4 : Value} {od4 an4 : Option Addr} {sl4 : Array (Option Value)} {f5 : Addr} {oc5 kV5 dc5 pm5 cd5 ct5 : Value} {od5 an5 : Option Addr} {sl5 : Array (Option Value)} {f6 : Addr} {oc6 kV6 dc6 pm6 cd6 ct6 : Value} {od6 an6 : Option Addr} {sl6 : Array (Option Value)} {f7 : Addr} {oc7 kV7 dc7 pm7 cd7 ct7 : Value} {od7 an7 : Option Addr} {sl7 : Array (Option Value)} {f8 : Addr} {oc8 kV8 dc8 pm8 cd8 ct8 : Value} {od8 an8 : Option Addr} {sl8 : Array (Option Value)} {f9 : Addr} {oc9 kV9 dc9 pm9 cd9 ct9 : Value} {od9 an9 : Option Addr} {sl9 : Array (Option Value)} {f10 : Addr} {oc10 kV10 dc10 pm10 cd10 ct10 : Value} {od10 an10 : Option Addr} {sl10 : Array (Option Value)} {f11 : Addr} {oc11 kV11 dc11 pm11 cd11 ct11 : Value} {od11 an11 : Option Addr} {sl11 : Array (Option Value)} {f12 : Addr} {oc12 kV12 dc12 pm12 cd12 ct12 : Value} {od12 an12 : Option Addr} {sl12 : Array (Option Value)} {f13 : Addr} {oc13 kV13 dc13 pm13 cd13 ct13 : Value} {od13 an13 : Option Addr} {sl13 : Array (Option Value)} {f14 : Addr} {oc14 kV14 dc14 pm14 cd14 ct14 : Value} {od14 an14 : Option Addr} {sl14 : Array (Option Value)} {f15 : Addr} {oc15 kV15 dc15 pm15 cd15 ct15 : Value} {od15 an15 : Option Addr} {sl15 : Array (Option Value)} {f16 : Addr} {oc16 kV16 dc16 pm16 cd16 ct16 : Value} {od16 an16 : Option Addr} {sl16 : Array (Option Value)} {f17 : Addr} {oc17 kV17 dc17 pm17 cd17 ct17 : Value} {od17 an17 : Option Addr} {sl17 : Array (Option Value)} (X : K.In h) (G : h.Ns mainGlobals mg) (hfa : mg "law" = some (.ref fa))
    (a0 : PySem.W.nsIn K mainGlobals "read_digits" = some (some (.ref f0))) (l0 : K.lookup f0 = some ⟨oc0, od0, .func (PySem.W.fnOf "read_digits" "read_digits" (defArgs sDigits) (defBody sDigits) (defScope sDigits) .none kV0 dc0 pm0 an0 cd0 ct0), sl0⟩) (c0 : PySem.W.codeIn K cd0 "read_digits" = true) (k0 : PySem.W.keepIn K (.ref f0) = true)
    (a1 : PySem.W.nsIn K mainGlobals "run_end" = some (some (.ref f1))) (l1 : K.lookup f1 = some ⟨oc1, od1, .func (PySem.W.fnOf "run_end" "run_end" (defArgs sRun) (defBody sRun) (defScope sRun) .none kV1 dc1 pm1 an1 cd1 ct1), sl1⟩) (c1 : PySem.W.codeIn K cd1 "run_end" = true) (k1 : PySem.W.keepIn K (.ref f1) = true)
    (a2 : PySem.W.nsIn K mainGlobals "blank_end" = some (some (.ref f2))) (l2 : K.lookup f2 = some ⟨oc2, od2, .func (PySem.W.fnOf "blank_end" "blank_end" (defArgs sBlank) (defBody sBlank) (defScope sBlank) .none kV2 dc2 pm2 an2 cd2 ct2), sl2⟩) (c2 : PySem.W.codeIn K cd2 "blank_end" = true) (k2 : PySem.W.keepIn K (.ref f2) = true)
    (a3 : PySem.W.nsIn K mainGlobals "text_token" = some (some (.ref f3))) (l3 : K.lookup f3 = some ⟨oc3, od3, .func (PySem.W.fnOf "text_token" "text_token" (defArgs sText) (defBody sText) (defScope sText) .none kV3 dc3 pm3 an3 cd3 ct3), sl3⟩) (c3 : PySem.W.codeIn K cd3 "text_token" = true) (k3 : PySem.W.keepIn K (.ref f3) = true)
    (a4 : PySem.W.nsIn K mainGlobals "quoted_token" = some (some (.ref f4))) (l4 : K.lookup f4 = some ⟨oc4, od4, .func (PySem.W.fnOf "quoted_token" "quoted_token" (defArgs sQuoted) (defBody sQuoted) (defScope sQuoted) .none kV4 dc4 pm4 an4 cd4 ct4), sl4⟩) (c4 : PySem.W.codeIn K cd4 "quoted_token" = true) (k4 : PySem.W.keepIn K (.ref f4) = true)
    (a5 : PySem.W.nsIn K mainGlobals "integer_token" = some (some (.ref f5))) (l5 : K.lookup f5 = some ⟨oc5, od5, .func (PySem.W.fnOf "integer_token" "integer_token" (defArgs sInteger) (defBody sInteger) (defScope sInteger) .none kV5 dc5 pm5 an5 cd5 ct5), sl5⟩) (c5 : PySem.W.codeIn K cd5 "integer_token" = true) (k5 : PySem.W.keepIn K (.ref f5) = true)
    (a6 : PySem.W.nsIn K mainGlobals "place_token" = some (some (.ref f6))) (l6 : K.lookup f6 = some ⟨oc6, od6, .func (PySem.W.fnOf "place_token" "place_token" (defArgs sPlace) (defBody sPlace) (defScope sPlace) .none kV6 dc6 pm6 an6 cd6 ct6), sl6⟩) (c6 : PySem.W.codeIn K cd6 "place_token" = true) (k6 : PySem.W.keepIn K (.ref f6) = true)
    (a7 : PySem.W.nsIn K mainGlobals "token_at" = some (some (.ref f7))) (l7 : K.lookup f7 = some ⟨oc7, od7, .func (PySem.W.fnOf "token_at" "token_at" (defArgs sTokenAt) (defBody sTokenAt) (defScope sTokenAt) .none kV7 dc7 pm7 an7 cd7 ct7), sl7⟩) (c7 : PySem.W.codeIn K cd7 "token_at" = true) (k7 : PySem.W.keepIn K (.ref f7) = true)
    (a8 : PySem.W.nsIn K mainGlobals "tokens_of" = some (some (.ref f8))) (l8 : K.lookup f8 = some ⟨oc8, od8, .func (PySem.W.fnOf "tokens_of" "tokens_of" (defArgs sTokens) (defBody sTokens) (defScope sTokens) .none kV8 dc8 pm8 an8 cd8 ct8), sl8⟩) (c8 : PySem.W.codeIn K cd8 "tokens_of" = true) (k8 : PySem.W.keepIn K (.ref f8) = true)
    (a9 : PySem.W.nsIn K mainGlobals "is_semicolon" = some (some (.ref f9))) (l9 : K.lookup f9 = some ⟨oc9, od9, .func (PySem.W.fnOf "is_semicolon" "is_semicolon" (defArgs sSemi) (defBody sSemi) (defScope sSemi) .none kV9 dc9 pm9 an9 cd9 ct9), sl9⟩) (c9 : PySem.W.codeIn K cd9 "is_semicolon" = true) (k9 : PySem.W.keepIn K (.ref f9) = true)
    (a10 : PySem.W.nsIn K mainGlobals "complete_statement" = some (some (.ref f10))) (l10 : K.lookup f10 = some ⟨oc10, od10, .func (PySem.W.fnOf "complete_statement" "complete_statement" (defArgs sComplete) (defBody sComplete) (defScope sComplete) .none kV10 dc10 pm10 an10 cd10 ct10), sl10⟩) (c10 : PySem.W.codeIn K cd10 "complete_statement" = true) (k10 : PySem.W.keepIn K (.ref f10) = true)
    (a11 : PySem.W.nsIn K mainGlobals "_law_fresh" = some (some (.ref f11))) (l11 : K.lookup f11 = some ⟨oc11, od11, .func (PySem.W.fnOf "_law_fresh" "_law_fresh" (defArgs sFresh) (defBody sFresh) (defScope sFresh) .none kV11 dc11 pm11 an11 cd11 ct11), sl11⟩) (c11 : PySem.W.codeIn K cd11 "_law_fresh" = true) (k11 : PySem.W.keepIn K (.ref f11) = true)
    (a12 : PySem.W.nsIn K mainGlobals "_law_fill" = some (some (.ref f12))) (l12 : K.lookup f12 = some ⟨oc12, od12, .func (PySem.W.fnOf "_law_fill" "_law_fill" (defArgs sFill) (defBody sFill) (defScope sFill) .none kV12 dc12 pm12 an12 cd12 ct12), sl12⟩) (c12 : PySem.W.codeIn K cd12 "_law_fill" = true) (k12 : PySem.W.keepIn K (.ref f12) = true)
    (a13 : PySem.W.nsIn K mainGlobals "_law_take" = some (some (.ref f13))) (l13 : K.lookup f13 = some ⟨oc13, od13, .func (PySem.W.fnOf "_law_take" "_law_take" (defArgs sTake) (defBody sTake) (defScope sTake) .none kV13 dc13 pm13 an13 cd13 ct13), sl13⟩) (c13 : PySem.W.codeIn K cd13 "_law_take" = true) (k13 : PySem.W.keepIn K (.ref f13) = true)
    (a14 : PySem.W.nsIn K mainGlobals "_law_one" = some (some (.ref f14))) (l14 : K.lookup f14 = some ⟨oc14, od14, .func (PySem.W.fnOf "_law_one" "_law_one" (defArgs sOne) (defBody sOne) (defScope sOne) .none kV14 dc14 pm14 an14 cd14 ct14), sl14⟩) (c14 : PySem.W.codeIn K cd14 "_law_one" = true) (k14 : PySem.W.keepIn K (.ref f14) = true)
    (a15 : PySem.W.nsIn K mainGlobals "_law_same" = some (some (.ref f15))) (l15 : K.lookup f15 = some ⟨oc15, od15, .func (PySem.W.fnOf "_law_same" "_law_same" (defArgs sSame) (defBody sSame) (defScope sSame) .none kV15 dc15 pm15 an15 cd15 ct15), sl15⟩) (c15 : PySem.W.codeIn K cd15 "_law_same" = true) (k15 : PySem.W.keepIn K (.ref f15) = true)
    (a16 : PySem.W.nsIn K mainGlobals "_law_ends_well" = some (some (.ref f16))) (l16 : K.lookup f16 = some ⟨oc16, od16, .func (PySem.W.fnOf "_law_ends_well" "_law_ends_well" (defArgs sEnds) (defBody sEnds) (defScope sEnds) .none kV16 dc16 pm16 an16 cd16 ct16), sl16⟩) (c16 : PySem.W.codeIn K cd16 "_law_ends_well" = true) (k16 : PySem.W.keepIn K (.ref f16) = true)
    (a17 : PySem.W.nsIn K mainGlobals "law" = some (some (.ref f17))) (l17 : K.lookup f17 = some ⟨oc17, od17, .func (PySem.W.fnOf "law" "law" (defArgs sLaw) (defBody sLaw) (defScope sLaw) .none kV17 dc17 pm17 an17 cd17 ct17), sl17⟩) (c17 : PySem.W.codeIn K cd17 "law" = true) (k17 : PySem.W.keepIn K (.ref f17) = true)
    (z_len : PySem.W.nsIn K mainGlobals "len" = some none)
    (z_int : PySem.W.nsIn K mainGlobals "int" = some none)
    (z_enumerate : PySem.W.nsIn K mainGlobals "enumerate" = some none)
    (z_bool : PySem.W.nsIn K mainGlobals "bool" = some none)
    (z_list : PySem.W.nsIn K mainGlobals "list" = some none)
    (z_tuple : PySem.W.nsIn K mainGlobals "tuple" = some none)
    (z_isinstance : PySem.W.nsIn K mainGlobals "isinstance" = some none)
    (z_all : PySem.W.nsIn K mainGlobals "all" = some none)
    (z_zip : PySem.W.nsIn K mainGlobals "zip" = some none)
    (z_min : PySem.W.nsIn K mainGlobals "min" = some none)
    (z_range : PySem.W.nsIn K mainGlobals "range" = some none)
    {t_BLANKS : Tok} (tBLANKS : PySem.W.nsIn K mainGlobals "BLANKS" = some (some (.str (Str.ofString " \n") t_BLANKS)))
    {t_LETTERS : Tok} (tLETTERS : PySem.W.nsIn K mainGlobals "LETTERS" = some (some (.str (Str.ofString "abcdefghijklmnopqrstuvwxyzABCDEFGHIJKLMNOPQRSTUVWXYZ_") t_LETTERS)))
    {t_DIGITS : Tok} (tDIGITS : PySem.W.nsIn K mainGlobals "DIGITS" = some (some (.str (Str.ofString "0123456789") t_DIGITS)))
    {t_SINGLE : Tok} (tSINGLE : PySem.W.nsIn K mainGlobals "SINGLE" = some (some (.str (Str.ofString "(),.;=<>+-*/") t_SINGLE)))
    {t_G : Tok} (tG : PySem.W.nsIn K mainGlobals "GREATEST" = some (some (.int 9223372036854775807 t_G)))
    {aD : Addr} {oD : Option Addr} {nD : Nat} {sD : Array (Option Value)} {q1 q2 q3 q4 q5 q6 : Tok} (tD : PySem.W.nsIn K mainGlobals "DOUBLE" = some (some (.ref aD))) (lD : K.lookup aD = some ⟨.type "tuple", oD, .seq #[.str (Str.ofString "||") q1, .str (Str.ofString "<=") q2, .str (Str.ofString ">=") q3, .str (Str.ofString "<>") q4, .str (Str.ofString "!=") q5, .str (Str.ofString "==") q6] nD, sD⟩) :
    ∃ fd : FuncData, (∀ (s : Shared) (v : Value), BindsTo s fd ⟨[v], []⟩ [("_law_script", v)]) ∧ ∀ base : Heap, K.In base → base.Ns mainGlobals mg → FnOk l.prog w K mg base CX0 6 fa fd ["_law_script"] (spLaw K) := by
  have e := hfa.symm.trans (PySem.W.mg_of X G a17)
  cases e
  have T : Tx mg := ⟨PySem.W.mg_none_of X G z_len, PySem.W.mg_none_of X G z_int, PySem.W.mg_none_of X G z_enumerate⟩
  have T2 : Ty mg := ⟨PySem.W.mg_none_of X G z_len, PySem.W.mg_none_of X G z_int, PySem.W.mg_none_of X G z_bool, PySem.W.mg_none_of X G z_list, PySem.W.mg_none_of X G z_tuple, PySem.W.mg_none_of X G z_isinstance, PySem.W.mg_none_of X G z_all, PySem.W.mg_none_of X G z_zip⟩
  have T3 : Tg K mg := ⟨⟨_, PySem.W.mg_of X G tBLANKS⟩, ⟨_, PySem.W.mg_of X G tLETTERS⟩, ⟨_, PySem.W.mg_of X G tDIGITS⟩, ⟨_, PySem.W.mg_of X G tSINGLE⟩, ⟨_, PySem.W.mg_of X G tG⟩,
    ⟨aD, PySem.W.mg_of X G tD, fun H => .inr ⟨_, _, _, lD, rfl, rfl, (by show 6 ≤ sizeLine; decide), .cons ⟨_, rfl⟩ (.cons ⟨_, rfl⟩ (.cons ⟨_, rfl⟩ (.cons ⟨_, rfl⟩ (.cons ⟨_, rfl⟩ (.cons ⟨_, rfl⟩ .nil)))))⟩⟩, PySem.W.mg_none_of X G z_min⟩
  have D0 : Df K mg "read_digits" sDigits ["digits"] := df_mk X G a0 l0 c0 k0 fun _ _ _ _ _ _ us hl => match us, hl with | [_], _ => rfl
  have D1 : Df K mg "run_end" sRun ["sql", "at", "signs"] := df_mk X G a1 l1 c1 k1 fun _ _ _ _ _ _ us hl => match us, hl with | [_, _, _], _ => rfl
  have D2 : Df K mg "blank_end" sBlank ["sql", "at"] := df_mk X G a2 l2 c2 k2 fun _ _ _ _ _ _ us hl => match us, hl with | [_, _], _ => rfl
  have D3 : Df K mg "text_token" sText ["sql", "at"] := df_mk X G a3 l3 c3 k3 fun _ _ _ _ _ _ us hl => match us, hl with | [_, _], _ => rfl
  have D4 : Df K mg "quoted_token" sQuoted ["sql", "at"] := df_mk X G a4 l4 c4 k4 fun _ _ _ _ _ _ us hl => match us, hl with | [_, _], _ => rfl
  have D5 : Df K mg "integer_token" sInteger ["sql", "at"] := df_mk X G a5 l5 c5 k5 fun _ _ _ _ _ _ us hl => match us, hl with | [_, _], _ => rfl
  have D6 : Df K mg "place_token" sPlace ["sql", "at"] := df_mk X G a6 l6 c6 k6 fun _ _ _ _ _ _ us hl => match us, hl with | [_, _], _ => rfl
  have D7 : Df K mg "token_at" sTokenAt ["sql", "at"] := df_mk X G a7 l7 c7 k7 fun _ _ _ _ _ _ us hl => match us, hl with | [_, _], _ => rfl
  have D8 : Df K mg "tokens_of" sTokens ["sql"] := df_mk X G a8 l8 c8 k8 fun _ _ _ _ _ _ us hl => match us, hl with | [_], _ => rfl
  have D9 : Df K mg "is_semicolon" sSemi ["token"] := df_mk X G a9 l9 c9 k9 fun _ _ _ _ _ _ us hl => match us, hl with | [_], _ => rfl
  have D10 : Df K mg "complete_statement" sComplete ["sql"] := df_mk X G a10 l10 c10 k10 fun _ _ _ _ _ _ us hl => match us, hl with | [_], _ => rfl
  have D11 : Df K mg "_law_fresh" sFresh ["_law_script"] := df_mk X G a11 l11 c11 k11 fun _ _ _ _ _ _ us hl => match us, hl with | [_], _ => rfl
  have D12 : Df K mg "_law_fill" sFill ["_law_state"] := df_mk X G a12 l12 c12 k12 fun _ _ _ _ _ _ us hl => match us, hl with | [_], _ => rfl
  have D13 : Df K mg "_law_take" sTake ["_law_state", "_law_many"] := df_mk X G a13 l13 c13 k13 fun _ _ _ _ _ _ us hl => match us, hl with | [_, _], _ => rfl
  have D14 : Df K mg "_law_one" sOne ["_law_state", "_law_things"] := df_mk X G a14 l14 c14 k14 fun _ _ _ _ _ _ us hl => match us, hl with | [_, _], _ => rfl
  have D15 : Df K mg "_law_same" sSame ["_law_found", "_law_due"] := df_mk X G a15 l15 c15 k15 fun _ _ _ _ _ _ us hl => match us, hl with | [_, _], _ => rfl
  have D16 : Df K mg "_law_ends_well" sEnds ["_law_text"] := df_mk X G a16 l16 c16 k16 fun _ _ _ _ _ _ us hl => match us, hl with | [_], _ => rfl
  refine ⟨PySem.W.fnOf "law" "law" (defArgs sLaw) (defBody sLaw) (defScope sLaw) .none kV17 dc17 pm17 an17 cd17 ct17, fun s v => .of_eq rfl, fun base _ _ => ?_⟩
  have PD := pr_digits (P := l.prog) (w := w) (base := base) D0 T
  have PR := pr_run (P := l.prog) (w := w) (base := base) D1 T
  have PB := pr_blank (P := l.prog) (w := w) (base := base) D2 T T3
  have PTx := pr_text (P := l.prog) (w := w) (base := base) D3 T
  have PQ := pr_quoted (P := l.prog) (w := w) (base := base) D4 T
  have PI := pr_integer D5 T T3 PR PD
  have PL := pr_place D6 T T3 PR
  have PK := pr_tokenAt D7 T T3 PR PI PTx PQ PL
  have PA := pr_tokens D8 T PB PK
  have PM := pr_semi (P := l.prog) (w := w) (base := base) D9
  have PC := pr_complete D10 T PA PM
  have P1 := pr_fresh (P := l.prog) (w := w) (base := base) D11
  have P2 := pr_fill (P := l.prog) (w := w) (base := base) D12 T
  have P3 := pr_take D13 T P2
  have P4 := pr_one D14 T P3
  have P5 := pr_same (P := l.prog) (w := w) (base := base) D15 T2 2
  have P6 := pr_ends (P := l.prog) (w := w) (base := base) D16 T
  exact ok_law (fun_mk l17 c17 k17) (PySem.W.mg_none_of X G z_range) P1 P3 P4 P5 PC P6
theorem walk {l : PySem.W.OpenLaw} {q : Program} {loose : List Str} {XP : (Str → Option Value) → Heap → Prop} {YP : World → Heap → Prop} {d : DefRec} {K : Params → PySem.W.Frag} (hn : l.most = some 63) (hdf : d.params.defaults = [])
    (hY : ∀ (w : World) (h : Heap), YP w h → (K w.params).In h)
    (F : ∀ (w : World) (mg : Str → Option Value) (fa : Addr) (h : Heap), (K w.params).In h → h.Ns mainGlobals mg → mg d.name = some (.ref fa) →
      ∃ fd : FuncData, (∀ (s : Shared) (u : Value), BindsTo s fd ⟨[u], []⟩ [("_law_script", u)]) ∧ ∀ base : Heap, (K w.params).In base → base.Ns mainGlobals mg → FnOk l.prog w (K w.params) mg base CX0 6 fa fd ["_law_script"] (spLaw (K w.params))) :
    PySem.W.WalkO q loose XP YP l.row.toRowW d [] (fun f vs => PySem.call f vs) :=
  L2.walk_of (n := 63) (k := 6) (x := "_law_script") (CX := fun _ => CX0) (sp := fun w => spLaw (K w.params)) hn (by decide) hdf ⟨rfl, by decide, by decide⟩ hY F (fun _ _ a ns hl _ hS => ⟨a, ns, rfl, hS, hl, fun _ => rfl⟩) fun _ _ _ _ _ z => z
end C63
open PySem PySem.W PyProof.Rows
set_option maxRecDepth 100000 in
set_option maxHeartbeats 0 in
theorem PySem.Challenge.cw_cursorhouse_k63_complete_statements_holds : PySem.Challenge.rw_cursorhouse_k63_complete_statements.Holds := by
  w_on; o_law; k_head; (case hw => w_witness2)
  k_fill
  refine C63.walk (l := PySem.Challenge.rw_cursorhouse_k63_complete_statements) rfl rfl (fun w h Y => PySem.W.kIn_of Y) ?F
  case F =>
    intro w mg fa h KX G hmg
    refine' C63.all_mk KX G hmg ?a0 ?l0 ?c0 ?k0 ?a1 ?l1 ?c1 ?k1 ?a2 ?l2 ?c2 ?k2 ?a3 ?l3 ?c3 ?k3 ?a4 ?l4 ?c4 ?k4 ?a5 ?l5 ?c5 ?k5 ?a6 ?l6 ?c6 ?k6 ?a7 ?l7 ?c7 ?k7 ?a8 ?l8 ?c8 ?k8 ?a9 ?l9 ?c9 ?k9 ?a10 ?l10 ?c10 ?k10 ?a11 ?l11 ?c11 ?k11 ?a12 ?l12 ?c12 ?k12 ?a13 ?l13 ?c13 ?k13 ?a14 ?l14 ?c14 ?k14 ?a15 ?l15 ?c15 ?k15 ?a16 ?l16 ?c16 ?k16 ?a17 ?l17 ?c17 ?k17 ?z_len ?z_int ?z_enumerate ?z_bool ?z_list ?z_tuple ?z_isinstance ?z_all ?z_zip ?z_min ?z_range ?tBLANKS ?tLETTERS ?tDIGITS ?tSINGLE ?tG ?tD ?lD
    (case a0 => k_is)
    (case l0 => k_is)
    (case c0 => k_is)
    (case k0 => k_is)
    (case a1 => k_is)
    (case l1 => k_is)
    (case c1 => k_is)
    (case k1 => k_is)
    (case a2 => k_is)
    (case l2 => k_is)
    (case c2 => k_is)
    (case k2 => k_is)
    (case a3 => k_is)
    (case l3 => k_is)
    (case c3 => k_is)
    (case k3 => k_is)
    (case a4 => k_is)
    (case l4 => k_is)
    (case c4 => k_is)
    (case k4 => k_is)
    (case a5 => k_is)
    (case l5 => k_is)
    (case c5 => k_is)
    (case k5 => k_is)
    (case a6 => k_is)
    (case l6 => k_is)
    (case c6 => k_is)
    (case k6 => k_is)
    (case a7 => k_is)
    (case l7 => k_is)
    (case c7 => k_is)
    (case k7 => k_is)
    (case a8 => k_is)
    (case l8 => k_is)
    (case c8 => k_is)
    (case k8 => k_is)
    (case a9 => k_is)
    (case l9 => k_is)
    (case c9 => k_is)
    (case k9 => k_is)
    (case a10 => k_is)
    (case l10 => k_is)
    (case c10 => k_is)
    (case k10 => k_is)
    (case a11 => k_is)
    (case l11 => k_is)
    (case c11 => k_is)
    (case k11 => k_is)
    (case a12 => k_is)
    (case l12 => k_is)
    (case c12 => k_is)
    (case k12 => k_is)
    (case a13 => k_is)
    (case l13 => k_is)
    (case c13 => k_is)
    (case k13 => k_is)
    (case a14 => k_is)
    (case l14 => k_is)
    (case c14 => k_is)
    (case k14 => k_is)
    (case a15 => k_is)
    (case l15 => k_is)
    (case c15 => k_is)
    (case k15 => k_is)
    (case a16 => k_is)
    (case l16 => k_is)
    (case c16 => k_is)
    (case k16 => k_is)
    (case a17 => k_is)
    (case l17 => k_is)
    (case c17 => k_is)
    (case k17 => k_is)
    (case z_len => k_is)
    (case z_int => k_is)
    (case z_enumerate => k_is)
    (case z_bool => k_is)
    (case z_list => k_is)
    (case z_tuple => k_is)
    (case z_isinstance => k_is)
    (case z_all => k_is)
    (case z_zip => k_is)
    (case z_min => k_is)
    (case z_range => k_is)
    (case tBLANKS => k_is)
    (case tLETTERS => k_is)
    (case tDIGITS => k_is)
    (case tSINGLE => k_is)
    (case tG => k_is)
    (case tD => k_is)
    (case lD => k_is)
#print axioms PySem.Challenge.cw_cursorhouse_k63_complete_statements_holds
