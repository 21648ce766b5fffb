import PyProof.Rows.All
import HandS.ForMost
import HandS.Walk
import KE.GoesMore
import HandS.Exc
import HandS.TryOnly
import HandS.ExcOwn
import HandS.WordsExc
import HandS.CallSlots
import HandS.Defaults
import HandS.Wide
import HandS.Deep
import HandS.DeepEq
import HandS.HeadHook1
import HandS.TupAny
import HandS.IsInst
import HandS.SortInts
import HandS.Conv
import HandS.SetFor
import HandS.Zip
import HandS.ExcIs
import PyProof.ExcBaseAll.ValueError
import HandS.Style
import HandS.HeadEnd
import HandS.EndBits
import HandS.HeadHook2
import HandS.Head2
import KE.DataMinMax
import PyProof.ReprRoads
import PyProof.P3In
import KE.SortData
import PyProof.StrBlockL
import PyProof.FitsInt
import PyProof.ReprText
import HandS.More
import PySem.Challenge.RW_pairedtongues_k57_bars_of_all_orders
import HandS.Head0
import HandS.Head1
set_option Elab.async false
set_option linter.all false
set_option maxRecDepth 100000
/-! EnT: enumerate(tuple). -/
namespace L2
open PySem PySem.Spec PyProof.Rows
open AutoSeq1 (wpAny_loadPart')
theorem meets_enum_tup (l : Addr) (items : Array Value) (n : Nat) (dct : Option Addr) (sl : Array (Option Value)) :
    Meets (Builtin.«enumerate.__new__» ⟨[.type "enumerate", .ref l], []⟩) (fun _ R s => s.heap.get? l = some { cls := .type "tuple", dict := dct, data := .seq items n, slots := sl } ∧
      R (.ok (.ret (.ref (s.heap.push { cls := .type "tuple_iterator", data := .fields #[.ref l, .int 0 0] }).objs.size)))
        { s with heap := (s.heap.push { cls := .type "tuple_iterator", data := .fields #[.ref l, .int 0 0] }).push { cls := .type "enumerate", data := .fields #[.none, .bool false, .ref s.heap.objs.size, rawInt 0, .none, .none] } }) :=
  .of_wp fun prog w A R s h => by
    obtain ⟨hp, g, d, tk, os⟩ := s; obtain ⟨hl, h⟩ := h
    have hsub := sub_enumerate
    have hL : Heap.IsTuple (Shared.heap ⟨hp, g, d, tk, os⟩) l items := ⟨_, hl, rfl, n, rfl⟩
    wp_walk using wpAny_loadPart' hl
    refine wpAny_stack_any fun st => wpAny_pure ?_
    split
    · rename_i c _ _ _ _ _
      cases (c == Value.type "enumerate")
      · wp_walk using wpAny_loadPart' hl, wpAny_pyIter_tuple hL
        exact ⟨_, rfl, h⟩
      · wp_walk using wpAny_loadPart' hl, wpAny_pyIter_tuple hL
        exact ⟨_, rfl, h⟩
    · wp_walk using wpAny_loadPart' hl, wpAny_pyIter_tuple hL
      exact ⟨_, rfl, h⟩
section
variable {prog : Program} {w : World} {A : Around} {E : Value → Shared → Prop} {s : Shared}
theorem call_enum_tup {l : Addr} {items : Array Value} {Q : Value → Shared → Prop} (hL : s.heap.IsTuple l items)
    (h : ∀ h', IsEnum h' (s.heap.objs.size + 1) s.heap.objs.size 0 .none → h'.IsTupleIter s.heap.objs.size l 0 → h'.objs.size = s.heap.objs.size + 2 →
      (∀ b o, s.heap.get? b = some o → h'.get? b = some o) → Q (.ref (s.heap.objs.size + 1)) { s with heap := h' }) :
    wpAny (model prog w) A (call (.type "enumerate") [.ref l]) Q E s := by
  obtain ⟨⟨c, dct, dt, sl⟩, hl, hc, n, hd⟩ := hL
  replace hc : c = .type "tuple" := hc
  replace hd : dt = .seq items n := hd
  subst hc hd
  refine callType_new F.called_enumerate (by decide) (F.typeCall_enumerate_1 _) (F.newCall_enumerate_1 _) (fun obj => F.args_object_init_2 obj _) F.entry_enumerate_new
    (meets_enum_tup l items n dct sl) ⟨hl, ?_⟩
  have hz : (s.heap.push { cls := .type "tuple_iterator", data := .fields #[.ref l, .int 0 0] }).objs.size = s.heap.objs.size + 1 := Heap.size_push ..
  show _ ∧ _
  rw [hz]
  have he : IsEnum ((s.heap.push { cls := .type "tuple_iterator", data := .fields #[.ref l, .int 0 0] }).push
      { cls := .type "enumerate", data := .fields #[.none, .bool false, .ref s.heap.objs.size, rawInt 0, .none, .none] }) (s.heap.objs.size + 1) s.heap.objs.size 0 .none := by
    have := Heap.get?_push_size (s.heap.push { cls := .type "tuple_iterator", data := .fields #[.ref l, .int 0 0] })
      (o := { cls := .type "enumerate", data := .fields #[.none, .bool false, .ref s.heap.objs.size, rawInt 0, .none, .none] }) rfl
    rw [hz] at this; exact this
  refine ⟨⟨_, he, rfl⟩, h _ he ⟨_, Heap.get?_push_of_some _ (Heap.get?_push_size _ rfl), rfl, rfl⟩ (by rw [Heap.size_push, hz]) fun b o x => Heap.get?_push_of_some _ (Heap.get?_push_of_some _ x)⟩
end
theorem enum_tup_end {prog : Program} {w : World} {A : Around} {E : Value → Shared → Prop} {s : Shared} {e it t : Addr} {i : Nat} {c : Int} {items : Array Value} {old : Value} {Q : Option Value → Shared → Prop} (hh : A.handled = none)
    (he : IsEnum s.heap e it c old) (hit : s.heap.IsTupleIter it t i) (ht : s.heap.IsTuple t items) (hx : items[i]? = none)
    (hQ : ∀ h', Heap.ExtBut it s.heap h' → Q none { s with heap := h' }) : wpAny (model prog w) A (pyNext (.ref e)) Q E s := by
  have hT : s.TypeIs (.ref e) "enumerate" := ⟨_, he, rfl⟩
  unfold pyNext
  refine wpAny_bind (wpAny_attempt (wpAny_callSpecial?_slot (name := Str.ofString "__next__") hT F.slot_enumerate_next
    (wpAny_call_entry F.slot_enumerate_next hT F.entry_enumerate_next ?_ (F.args_enumerate_next_1 _))))
  show wpAny _ _ (field (.ref e) 2 >>= _) _ _ _
  refine wpAny_bind (wpAny_field he rfl (x := .ref it) rfl ?_)
  refine wpAny_bind (wpAny_nextOf_tuple_end hh hit ht hx fun h' x he' hx' => ?_)
  obtain ⟨o, ho, hc⟩ := hx'
  refine wpAny_bind (wpAny_isInstance (T := "StopIteration") (b := true) ⟨o, ho, hc⟩ isSubtype_stop ?_)
  exact wpAny_pure (hQ _ he')
/-- the tuple at a as it stands at each turn, each item in a new pair -/
def IteT (K : PySem.W.Frag) (a : Addr) : It :=
  ⟨fun i H => ∃ (xs : List V) (x : V), SqT K H a xs ∧ xs[i]? = some x, fun i H v H' => ∃ T x, v = .ref T ∧ H T = none ∧ H' = upd H T (.tup [.int (i : Nat), x]) ∧ ∀ xs, SqT K H a xs → xs[i]? = some x, fun i H => ∃ xs : List V, SqT K H a xs ∧ xs.length ≤ i⟩
theorem turn_enumT {P : Program} {w : World} {K : PySem.W.Frag} {elts : List Expr} {kk : Nat} {tpos : Pos} (a e it : Addr) :
    Turn P w K (.Tuple elts kk tpos) (IteT K a) [e, it] e (fun i h => (∃ old, IsEnum h e it ((i : Nat) : Int) old) ∧ h.IsTupleIter it a i ∧ e ≠ it ∧ a ≠ it ∧ a ≠ e) where
  mem := by simp
  obj := fun i h st b hb => by
    obtain ⟨⟨old, he⟩, ⟨o, ho, hc, hd⟩, _⟩ := st
    have e' : b = e ∨ b = it := by simpa using hb
    rcases e' with z | z
    · rw [z]; exact ⟨_, he, fun v q => nomatch q⟩
    · rw [z]; exact ⟨o, ho, fun v q => by rw [hd] at q; cases q⟩
  keep := fun i h h' st k => let ⟨⟨old, he⟩, hi, hne⟩ := st; ⟨⟨old, k e (by simp) _ he⟩, hi.at fun o q => k it (by simp) o q, hne⟩
  item := by
    intro X hP hw hK hc i pins s σ H E I hf st hg
    subst hP hw hK
    obtain ⟨⟨old, he⟩, hit, hne, hai, hae⟩ := st
    obtain ⟨xs, x, hq, hx⟩ := hg
    obtain ⟨its, rv, p, hz⟩ := I.tuple hq
    obtain ⟨u, hu, ru⟩ := rv.get hx
    have hel : e < s.heap.objs.size := Heap.lt_size he
    have hil : it < s.heap.objs.size := by obtain ⟨_, q, _⟩ := hit; exact Heap.lt_size q
    have p' : s.heap.IsTuple a its.toArray := p
    have lt : i < its.toArray.size := by
      have := (List.getElem?_eq_some_iff.mp hu).1
      simpa using this
    refine wpAny_pyNext_enum_itemD (Draws.tuple (by first | rfl | exact I.ok.hd hc) it a hai its.toArray) he ⟨hit, p'⟩ lt hne (by simp [hne, Ne.symm hae]) fun u' h' tk hu' ho hst' hT hsz hk => ?_
    have eu : u' = u := by
      have z : its[i]? = some u' := by simpa using hu'
      rw [hu] at z
      exact (Option.some.inj z).symm
    subst eu
    refine ⟨_, rfl, wpAny_letOwnedTupleGo_enum (s := { s with heap := h', toks := tk + 1 }) ho fun h'' he' sb => ?_⟩
    have hT2 : h''.get? s.heap.objs.size = some { cls := .type "tuple", data := .seq #[.int i tk, u'] } := (sb.2 _ (Nat.ne_of_gt hel)).trans hT
    have new : ObjOk X.prog X.w (upd H s.heap.objs.size (.tup [.int (i : Nat), x])) h'' s.heap.objs.size (.tup [.int (i : Nat), x]) :=
      ⟨by show 2 ≤ sizeLine; decide, [.int i tk, u'], .cons ⟨_, rfl⟩ (.cons ru .nil), ⟨_, hT2, rfl, _, rfl⟩⟩
    have I1 : Inv X pins σ (upd H s.heap.objs.size (.tup [.int (i : Nat), x])) { s with heap := h'', toks := tk + 1 } :=
      I.turnedNew (ch := [e, it]) (fun b ob hb q => (sb.2 b (fun z => hb (by simp [z]))).trans (hk b ob (fun z => hb (by simp [z])) (fun z => hb (by simp [z])) q)) hf (Nat.le_refl _) new
    refine ⟨.ref s.heap.objs.size, _, I1, rfl, ⟨_, x, rfl, I.hok.fresh (Nat.le_refl _), rfl, fun ys hy => by rw [I.tuple_inj hy hq]; exact hx⟩, ⟨⟨u', ?_⟩, hst'.1.at fun o q => (sb.2 it (Ne.symm hne)).trans q, hne, hai, hae⟩, fun b hb => ?_⟩
    · have e1 : ((i + 1 : Nat) : Int) = (i : Int) + 1 := by omega
      rw [e1]; exact he'
    · have hb' : b < s.heap.objs.size := by
        have e' : b = e ∨ b = it := by simpa using hb
        rcases e' with z | z
        · rw [z]; exact hel
        · rw [z]; exact hil
      rw [upd_ne (Nat.ne_of_lt hb')]
      exact (hf b hb).1
  done := by
    intro X hP hw hK hc i pins s σ H E I hf st hg
    subst hP hw hK
    obtain ⟨⟨old, he⟩, hit, hne, hai, hae⟩ := st
    obtain ⟨xs, hq, hx⟩ := hg
    obtain ⟨its, rv, p, hz⟩ := I.tuple hq
    obtain ⟨f0, f1, f2, f3, f4, f5⟩ := hf it (by simp)
    have hl := rv.length
    have p' : s.heap.IsTuple a its.toArray := p
    refine enum_tup_end (I.ok.hd hc) he hit p' (by simp; omega) fun h' eb => ⟨rfl, I.turned (t' := s.toks) (fun b o hb q => eb b o hb q) f0 f1 f3 f4 f5⟩
  self := fun A i s Q E st h => let ⟨⟨_, he⟩, _⟩ := st; wpAny_pyIter_enum he h
def iEnumT (K : PySem.W.Frag) (ta : TA) : TI := fun σ H R => ta σ H fun vs H1 => ∃ a xs, vs = [.ref a] ∧ SqT K H1 a xs ∧ R (IteT K a) H1
theorem pi_enumT {X : Cx} {e : Expr} {ta : TA} {p pos tpos : Pos} {elts : List Expr} {kk : Nat} (hg : Gl X "enumerate") (hm : X.mg "enumerate" = none) (ha : PA X [e] ta) (hs : starEach [e] X.env = [(false, eval e X.env)] := by rfl) :
    PI X (.Tuple elts kk tpos) (.Call (.Name "enumerate" p) [e] [] pos) (iEnumT X.K ta) := by
  refine ⟨fun pins s σ H R I h => ?_⟩
  refine Call_ (ld_blt I hg hm boot_enumerate (PyProof.Rows.callWith_type1 (thn (ha.run pos pins s σ H _ I h) fun us s1 ⟨vs, H1, I1, r1, q1⟩ => ?_) hs rfl))
  obtain ⟨a, xs, ex, hq, q⟩ := q1
  subst ex
  cases r1 with
  | cons r rr =>
    cases rr
    cases r
    obtain ⟨its, rv, p', hz⟩ := I1.tuple hq
    have p2 : s1.heap.IsTuple a its.toArray := p'
    have al : a < s1.heap.objs.size := by obtain ⟨o, e, _⟩ := p2; exact Heap.lt_size e
    refine call_enum_tup p2 fun h' he hit hsz hk => wpAny_pyIter_enum he ?_
    have I2 : Inv X pins σ H1 { s1 with heap := h' } := I1.kept (t' := s1.toks) hk
    refine ⟨s1.heap.objs.size + 1, [s1.heap.objs.size + 1, s1.heap.objs.size], _, _, H1, rfl, I2, turn_enumT a (s1.heap.objs.size + 1) s1.heap.objs.size, ⟨⟨.none, he⟩, hit, Nat.succ_ne_self _, Nat.ne_of_lt al, Nat.ne_of_lt (Nat.lt_succ_of_lt al)⟩, fun b hb => ?_, q⟩
    have e' : b = s1.heap.objs.size + 1 ∨ b = s1.heap.objs.size := by simpa using hb
    have hle : s1.heap.objs.size ≤ b := by
      rcases e' with z | z
      · rw [z]; exact Nat.le_add_right _ _
      · rw [z]; exact Nat.le_refl _
    exact I1.fpOk hle (I1.hok.fresh hle)
theorem walk_enumT {K : PySem.W.Frag} {a : Addr} {xs : List V} : Walk (IteT K a) xs.length (fun H => SqT K H a xs) (YPair (fun i => some (.int (i : Nat))) (fun i => xs[i]?)) := by
  refine ⟨fun i _ hi q => ⟨xs, xs[i], q, by simp [hi]⟩, fun _ q => ⟨xs, q, Nat.le_refl _⟩, fun i H v H' _ q y => ?_⟩
  obtain ⟨T, x, h1, h2, h3, h4⟩ := y
  exact ⟨T, .int (i : Nat), x, h1, h2, h3, rfl, h4 xs q⟩
end L2
set_option Elab.async false
set_option linter.all false
set_option autoImplicit false
set_option maxRecDepth 100000
/-! Ev0: what a def promises where no repr is under way around it (so that repr may be called in it). -/
namespace Ev
open PySem PySem.Spec L2
open PyProof.Rows hiding St
/-- room for k calls, and no guard held -/
structure RoomG (k : Nat) (A : Around) : Prop where
  r : Room k A
  g : A.guards = some []
theorem RoomG.mono {j k : Nat} {A : Around} (r : RoomG k A) (h : j ≤ k) : RoomG j A := ⟨r.r.mono h, r.g⟩
theorem RoomG.deeper {k : Nat} {A : Around} (r : RoomG (k + 1) A) (env : PySem.Env) : RoomG k (A.deeper env) := ⟨r.r.deeper env, r.g⟩
theorem RoomG.units {k : Nat} {A : Around} (r : RoomG k A) : A.units + 64 < cLine := r.r.units
theorem RoomG.units2 {k : Nat} {A : Around} (r : RoomG k A) : A.units + 199 < cLine := by
  have := r.r.un
  omega
structure FnG (P : Program) (w : World) (K : PySem.W.Frag) (mg : Str → Option Value) (base : Heap) (CX : CXT) (k : Nat) (f : Addr) (fd : FuncData) (ps : List Str) (sp : Sp) : Prop where
  ln : ∀ vs H Q E, sp vs H Q E → vs.length = ps.length
  go : ∀ (A : Around) (outer : List PySem.Env) (s : Shared) (H : Hp) (args : Args) (us : List Value) (vs : List V) (Q : VK) (E : XK), RoomG k A → Env0 P w K mg base A outer s H → BindsTo s fd args (ps.zip us) →
    Vals vs us → sp vs H Q E → codeAny (model P w) A (.call (.ref f) args) (CR CX outer P w H s Q E) s
section
variable {P : Program} {w : World} {K : PySem.W.Frag} {mg : Str → Option Value} {base : Heap} {CX : CXT} {j k : Nat} {f : Addr} {fd : FuncData} {ps : List Str} {sp : Sp}
theorem FnG.mono (F : FnG P w K mg base CX j f fd ps sp) (h : j ≤ k) : FnG P w K mg base CX k f fd ps sp :=
  ⟨F.ln, fun A outer s H args us vs Q E hr => F.go A outer s H args us vs Q E (hr.mono h)⟩
/-- a def whose promise is never asked -/
theorem FnG.never (h : ∀ vs H Q E, ¬ sp vs H Q E) : FnG P w K mg base CX k f fd ps sp :=
  ⟨fun vs H Q E q => (h vs H Q E q).elim, fun A outer s H args us vs Q E _ _ _ _ q => (h vs H Q E q).elim⟩
end
section
variable {P : Program} {w : World} {K : PySem.W.Frag} {mg : Str → Option Value} {base : Heap} {x qual : Str} {params : Arguments} {body : List Stmt} {scope : Scope} {dvs : List V} {kws : List (Str × V)} {f : Addr} {fd : FuncData}
/-- the body's reading gives the promise -/
theorem fng_of {CX : CXT} {N ps : List Str} {k : Nat} {sp : Sp} (F : FunD K x qual params body scope dvs kws f fd) (S : FnScope N ps scope) (ln : ∀ vs H Q E, sp vs H Q E → vs.length = ps.length)
    (bd : ∀ (cdv : Value) (A : Around) (outer : List PySem.Env) (s : Shared) (H : Hp) (vs : List V) (Q : VK) (E : XK), RoomG k (A.deeper (envOfC qual scope s.heap.objs.size f cdv)) → sp vs H Q E →
      ∃ t, PSs (cxOf CX P w K mg base N qual scope f cdv A outer s H E) body t ∧ t { nx := fun _ H' => Q .non H', rt := Q } (start N vs) H) : FnG P w K mg base CX (k + 1) f fd ps sp := by
  obtain ⟨oc, od, dV, kV, doc, pm, an, cdv, ct, osl, rfl, lk, hcd, _, _⟩ := F.ex
  refine ⟨ln, fun A outer s H args us vs Q E gr z0 bt rr ask => ?_⟩
  have many := ln _ _ _ _ ask
  have inn : K.In s.heap := z0.mod.kin.keeps fun b o e => (z0.bs b o e).1
  have nl : s.heap.NoLimit := z0.mod.nolimit.keeps fun b o e => (z0.bs b o e).1
  refine codeAny_call_function gr.r.depth (inn _ _ lk) rfl S.co S.gen rfl (PySem.W.codeRec_of inn hcd) (bt _ _ _ _ ?_)
  refine wpAny_newFunctionEnv_cells S.kind (fun ⟨n, v⟩ hy => ?_) fun env he s1 x => ?_
  · exact (S.par n (List.of_mem_zip hy).1).imp id fun q => ⟨q, PySem.W.cellsFrom_some _ _ _ (.inl q)⟩
  · subst he
    refine ⟨nl.keeps x.toInCall.keep, codeAny_func ?_⟩
    obtain ⟨t, walk, hq⟩ := bd cdv A outer s H vs Q E (gr.deeper _) ask
    have iv : Inv (cxOf CX P w K mg base N qual scope f cdv A outer s H E) [] (start N vs) H s1 := inv_start S gr.r.hd z0 many rr x
    refine wpAny_mono (walk.run [] s1 (start N vs) H _ iv hq) (fun fl s' hs => ?_) fun e s' hs => hs
    cases fl with
    | ret u => obtain ⟨v, σ', H', J, rv, q⟩ := hs; exact ⟨v, H', J.os, J.bare, J.base, J.hok, rv, q⟩
    | next => obtain ⟨σ', H', J, q⟩ := hs; exact ⟨V.non, H', J.os, J.bare, J.base, J.hok, rfl, q⟩
    | brk => obtain ⟨_, _, _, q⟩ := hs; exact q.elim
    | cont => obtain ⟨_, _, _, q⟩ := hs; exact q.elim
end
/-! ### the call -/
section
variable {X : Cx} {CX : CXT} {k : Nat} {f : Addr} {fd : FuncData} {ps : List Str} {sp : Sp} {E : St → XK} {x : Str} {p pos : Pos} {e : Expr} {es : List Expr} {t : TA}
theorem run_g {pins : List (Addr × Obj)} {σ : St} {H : Hp} {s : Shared} {Q : VK} {args : Args} {us : List Value} {vs : List V} (F : FnG X.prog X.w X.K X.mg X.base CX k f fd ps sp) (hr : RoomG k X.A) (hb : BindsTo s fd args (ps.zip us)) (hx : PassesAt CX X σ (E σ))
    (I : Inv X pins σ H s) (r : Vals vs us) (h : sp vs H Q (E σ)) : codeAny (model X.prog X.w) X.A (.call (.ref f) args) (fun r s' => match r with
      | .ok (.ret u) => EP X pins σ Q u s'
      | .ok _ => False
      | .error e => X.xe e s') s := by
  refine codeAny_mono (F.go X.A X.stack s H args us vs Q (E σ) hr I.env0 hb r h) fun r s' hq => ?_
  cases r with
  | error e => exact hx pins H s e s' I hq
  | ok fl =>
    cases fl with
    | ret u => exact I.after hq
    | next => exact hq.elim
    | brk => exact hq.elim
    | cont => exact hq.elim
theorem run_gp {pins : List (Addr × Obj)} {σ : St} {H : Hp} {s : Shared} {Q : VK} {us : List Value} {vs : List V} (F : FnG X.prog X.w X.K X.mg X.base CX k f fd ps sp) (hr : RoomG k X.A) (hb : Binds X.K fd ps []) (hx : PassesAt CX X σ (E σ))
    (I : Inv X pins σ H s) (r : Vals vs us) (h : sp vs H Q (E σ)) : wpAny (model X.prog X.w) X.A (call (.ref f) us) (EP X pins σ Q) X.xe s := by
  have many : us.length = ps.length := by rw [← r.length]; exact F.ln _ _ _ _ h
  have b := hb s us I.kIn (by rw [List.append_nil]; exact many)
  rw [List.append_nil] at b
  refine wpAny_call (codeAny_mono (run_g F hr b hx I r h) fun r s' hq => ?_)
  cases r with
  | error e => exact hq
  | ok fl =>
    cases fl with
    | ret u => exact hq
    | next => exact hq.elim
    | brk => exact hq.elim
    | cont => exact hq.elim
theorem pe_callG (F : FnG X.prog X.w X.K X.mg X.base CX k f fd ps sp) (hr : RoomG k X.A) (hg : Gl X x) (hm : X.mg x = some (.ref f)) (hk : PySem.W.keepIn X.K (.ref f) = true) (hb : Binds X.K fd ps []) (hx : ∀ σ, PassesAt CX X σ (E σ))
    (ha : PA X (e :: es) t) (hdb : (x == ("__debug__" : Str)) = false := by decide) (he : starEach (e :: es) X.env = (false, eval e X.env) :: starEach es X.env := by rfl) (hpl : (backTo pos (starEach es X.env)).any (·.1) = false := by rfl) :
    PE X (.Call (.Name x p) (e :: es) [] pos) (tCallS sp E t) := ⟨fun pins s σ H Q I h =>
  wpAny_Call_Name_kw (ld_glob I hg hm (PySem.W.callWith_K (h₀ := X.base) I.ok.mod.kin hk (thn (ha.run pos pins s σ H _ I h) fun us s1 ⟨vs, H1, I1, r, q⟩ => ⟨I1.kIn, run_gp F hr hb (hx σ) I1 r q⟩) he hpl) hdb)⟩
end
end Ev
set_option Elab.async false
set_option linter.all false
set_option autoImplicit false
set_option maxRecDepth 100000
/-! Ev1: plain data over the layer's heap; who owns which list; what an expression's evaluation keeps. -/
namespace Ev
open PySem PySem.Spec L2
open PyProof.Rows hiding St

/-- a dict's key as data -/
def keyD : Key → PyData
  | .inl i => .int i
  | .inr x => .str x
/-- a list of the fragment: nobody changes it -/
def LstK (K : PySem.W.Frag) (a : Addr) (xs : List V) : Prop := ∃ (o : Obj) (its : Array Value) (n : Nat), K.lookup a = some o ∧ o.cls = .type "list" ∧ o.dict = none ∧ o.data = .seq its n ∧ its.size ≤ sizeLine ∧ Vals xs its.toList
/-! ### v stands for the data d in H; the last list: the addresses of the lists and dicts in it -/
mutual
inductive Rp (K : PySem.W.Frag) (H : Hp) : V → PyData → List Addr → Prop
  | non : Rp K H .non .none []
  | bl (b : Bool) : Rp K H (.bl b) (.bool b) []
  | int (i : Int) : Rp K H (.int i) (.int i) []
  | str (x : Str) : Rp K H (.str x) (.str x) []
  | lst {a : Addr} {vs : List V} {ds : List PyData} {as : List Addr} : Rd H a (.lst vs) → RpA K H vs ds as → Rp K H (.ref a) (.list ds) (a :: as)
  | lsk {a : Addr} {vs : List V} {ds : List PyData} {as : List Addr} : LstK K a vs → RpA K H vs ds as → Rp K H (.ref a) (.list ds) as
  | tup {a : Addr} {vs : List V} {ds : List PyData} {as : List Addr} : SqT K H a vs → RpA K H vs ds as → Rp K H (.ref a) (.tuple ds) as
  | dic {a : Addr} {kvs : List (Key × V)} {ds : List (PyData × PyData)} {as : List Addr} : Rd H a (.dK kvs) → RpK K H kvs ds as → Rp K H (.ref a) (.dict ds) (a :: as)
inductive RpA (K : PySem.W.Frag) (H : Hp) : List V → List PyData → List Addr → Prop
  | nil : RpA K H [] [] []
  | cons {v : V} {vs : List V} {d : PyData} {ds : List PyData} {as bs : List Addr} : Rp K H v d as → RpA K H vs ds bs → RpA K H (v :: vs) (d :: ds) (as ++ bs)
inductive RpK (K : PySem.W.Frag) (H : Hp) : List (Key × V) → List (PyData × PyData) → List Addr → Prop
  | nil : RpK K H [] [] []
  | cons {k : Key} {v : V} {kvs : List (Key × V)} {d : PyData} {ds : List (PyData × PyData)} {as bs : List Addr} : Rp K H v d as → RpK K H kvs ds bs → RpK K H ((k, v) :: kvs) ((keyD k, d) :: ds) (as ++ bs)
end
section
variable {K : PySem.W.Frag} {H H' : Hp}
theorem Rd.keep {a : Addr} {o : HO} {W : Addr → Prop} (hk : ∀ b o, H b = some o → ¬ W b → H' b = some o) (h : Rd H a o) (hw : ¬ W a) : Rd H' a o := by
  rcases h with h | ⟨x, h⟩
  · exact .inl (hk _ _ h hw)
  · exact .inr ⟨x, hk _ _ h hw⟩
theorem Rd.there {a : Addr} {o : HO} (h : Rd H a o) : H a ≠ none := by
  rcases h with h | ⟨x, h⟩ <;> (intro e; rw [e] at h; cases h)
mutual
theorem Rp.keep {W : Addr → Prop} (hk : ∀ b o, H b = some o → ¬ W b → H' b = some o) (hm : ∀ b, W b → ∃ o, H b = some o ∧ Mut (some o)) : ∀ (d : PyData) (v : V) (as : List Addr), Rp K H v d as → (∀ b ∈ as, ¬ W b) → Rp K H' v d as
  | .none, _, _, h, _ => by cases h; exact .non
  | .bool b, _, _, h, _ => by cases h; exact .bl b
  | .int i, _, _, h, _ => by cases h; exact .int i
  | .str x, _, _, h, _ => by cases h; exact .str x
  | .list ds, _, _, h, hw => by
    cases h with
    | lst h1 h2 => exact .lst (Rd.keep hk h1 (hw _ (by simp))) (RpA.keep hk hm ds _ _ h2 fun b hb => hw b (by simp [hb]))
    | lsk h1 h2 => exact .lsk h1 (RpA.keep hk hm ds _ _ h2 hw)
  | .tuple ds, _, _, h, hw => by
    cases h with
    | tup h1 h2 =>
      refine .tup ?_ (RpA.keep hk hm ds _ _ h2 hw)
      rcases h1 with h1 | h1
      · refine .inl (Rd.keep hk h1 fun hw => ?_)
        obtain ⟨o, e, m⟩ := hm _ hw
        rcases h1 with h1 | ⟨x, h1⟩ <;> (rw [h1] at e; cases e; exact m)
      · exact .inr h1
  | .dict ds, _, _, h, hw => by
    cases h with
    | dic h1 h2 => exact .dic (Rd.keep hk h1 (hw _ (by simp))) (RpK.keep hk hm ds _ _ h2 fun b hb => hw b (by simp [hb]))
theorem RpA.keep {W : Addr → Prop} (hk : ∀ b o, H b = some o → ¬ W b → H' b = some o) (hm : ∀ b, W b → ∃ o, H b = some o ∧ Mut (some o)) : ∀ (ds : List PyData) (vs : List V) (as : List Addr), RpA K H vs ds as → (∀ b ∈ as, ¬ W b) → RpA K H' vs ds as
  | [], _, _, h, _ => by cases h; exact .nil
  | d :: ds, _, _, h, hw => by
    cases h with
    | cons h1 h2 => exact .cons (Rp.keep hk hm d _ _ h1 fun b hb => hw b (by simp [hb])) (RpA.keep hk hm ds _ _ h2 fun b hb => hw b (by simp [hb]))
theorem RpK.keep {W : Addr → Prop} (hk : ∀ b o, H b = some o → ¬ W b → H' b = some o) (hm : ∀ b, W b → ∃ o, H b = some o ∧ Mut (some o)) : ∀ (ds : List (PyData × PyData)) (kvs : List (Key × V)) (as : List Addr), RpK K H kvs ds as → (∀ b ∈ as, ¬ W b) → RpK K H' kvs ds as
  | [], _, _, h, _ => by cases h; exact .nil
  | (x, d) :: ds, _, _, h, hw => by
    cases h with
    | cons h1 h2 => exact .cons (Rp.keep hk hm d _ _ h1 fun b hb => hw b (by simp [hb])) (RpK.keep hk hm ds _ _ h2 fun b hb => hw b (by simp [hb]))
end
mutual
theorem Rp.there : ∀ (d : PyData) (v : V) (as : List Addr), Rp K H v d as → ∀ b ∈ as, H b ≠ none
  | .none, _, _, h, _, hb => by cases h; cases hb
  | .bool _, _, _, h, _, hb => by cases h; cases hb
  | .int _, _, _, h, _, hb => by cases h; cases hb
  | .str _, _, _, h, _, hb => by cases h; cases hb
  | .list ds, _, _, h, b, hb => by
    cases h with
    | lst h1 h2 =>
      rcases List.mem_cons.mp hb with e | hb
      · rw [e]; exact Rd.there h1
      · exact RpA.there ds _ _ h2 b hb
    | lsk h1 h2 => exact RpA.there ds _ _ h2 b hb
  | .tuple ds, _, _, h, b, hb => by
    cases h with
    | tup h1 h2 => exact RpA.there ds _ _ h2 b hb
  | .dict ds, _, _, h, b, hb => by
    cases h with
    | dic h1 h2 =>
      rcases List.mem_cons.mp hb with e | hb
      · rw [e]; exact Rd.there h1
      · exact RpK.there ds _ _ h2 b hb
theorem RpA.there : ∀ (ds : List PyData) (vs : List V) (as : List Addr), RpA K H vs ds as → ∀ b ∈ as, H b ≠ none
  | [], _, _, h, _, hb => by cases h; cases hb
  | d :: ds, _, _, h, b, hb => by
    cases h with
    | cons h1 h2 =>
      rcases List.mem_append.mp hb with hb | hb
      · exact Rp.there d _ _ h1 b hb
      · exact RpA.there ds _ _ h2 b hb
theorem RpK.there : ∀ (ds : List (PyData × PyData)) (kvs : List (Key × V)) (as : List Addr), RpK K H kvs ds as → ∀ b ∈ as, H b ≠ none
  | [], _, _, h, _, hb => by cases h; cases hb
  | (_, d) :: ds, _, _, h, b, hb => by
    cases h with
    | cons h1 h2 =>
      rcases List.mem_append.mp hb with hb | hb
      · exact Rp.there d _ _ h1 b hb
      · exact RpK.there ds _ _ h2 b hb
end
/-! ### data without lists or dicts -/
mutual
def flat : PyData → Bool
  | .none | .bool _ | .int _ | .str _ => true
  | .tuple ds => flatA ds
  | .list _ | .dict _ => false
def flatA : List PyData → Bool
  | [] => true
  | d :: ds => flat d && flatA ds
end
mutual
theorem Rp.flat : ∀ (d : PyData) (v : V) (as : List Addr), Rp K H v d as → flat d = true → as = []
  | .none, _, _, h, _ => by cases h; rfl
  | .bool _, _, _, h, _ => by cases h; rfl
  | .int _, _, _, h, _ => by cases h; rfl
  | .str _, _, _, h, _ => by cases h; rfl
  | .tuple ds, _, _, h, f => by cases h with | tup h1 h2 => exact RpA.flat ds _ _ h2 (by simpa [Ev.flat] using f)
  | .list _, _, _, _, f => by simp [Ev.flat] at f
  | .dict _, _, _, _, f => by simp [Ev.flat] at f
theorem RpA.flat : ∀ (ds : List PyData) (vs : List V) (as : List Addr), RpA K H vs ds as → flatA ds = true → as = []
  | [], _, _, h, _ => by cases h; rfl
  | d :: ds, _, _, h, f => by
    cases h with
    | cons h1 h2 =>
      simp only [Ev.flatA, Bool.and_eq_true] at f
      rw [Rp.flat d _ _ h1 f.1, RpA.flat ds _ _ h2 f.2]; rfl
end
theorem RpA.length {vs : List V} {ds : List PyData} {as : List Addr} (h : RpA K H vs ds as) : vs.length = ds.length := by
  induction ds generalizing vs as with
  | nil => cases h; rfl
  | cons d ds ih => cases h with | cons h1 h2 => simp [ih h2]
theorem RpA.get {vs : List V} {ds : List PyData} {as : List Addr} (h : RpA K H vs ds as) {i : Nat} {d : PyData} (e : ds[i]? = some d) : ∃ v bs, vs[i]? = some v ∧ Rp K H v d bs ∧ ∀ b ∈ bs, b ∈ as := by
  induction ds generalizing vs as i with
  | nil => simp at e
  | cons x ds ih =>
    cases h with
    | cons h1 h2 =>
      cases i with
      | zero => simp at e; subst e; exact ⟨_, _, rfl, h1, fun b hb => by simp [hb]⟩
      | succ i =>
        obtain ⟨v, bs, q1, q2, q3⟩ := ih h2 (by simpa using e)
        exact ⟨v, bs, by simpa using q1, q2, fun b hb => by simp [q3 b hb]⟩
/-- every item on its own -/
theorem RpA.of {Z : Addr → Prop} : ∀ {ds : List PyData} {vs : List V}, vs.length = ds.length → (∀ (i : Nat) (v : V) (d : PyData), vs[i]? = some v → ds[i]? = some d → ∃ as, Rp K H v d as ∧ ∀ b ∈ as, Z b) → ∃ as, RpA K H vs ds as ∧ ∀ b ∈ as, Z b
  | [], [], _, _ => ⟨[], .nil, fun _ h => nomatch h⟩
  | [], _ :: _, h, _ => by simp at h
  | _ :: _, [], h, _ => by simp at h
  | d :: ds, v :: vs, hl, h => by
    obtain ⟨as, h1, z1⟩ := h 0 v d rfl rfl
    obtain ⟨bs, h2, z2⟩ := RpA.of (vs := vs) (ds := ds) (by simpa using hl) fun i v d e1 e2 => h (i + 1) v d (by simpa using e1) (by simpa using e2)
    exact ⟨_, .cons h1 h2, fun b hb => (List.mem_append.mp hb).elim (z1 b) (z2 b)⟩
theorem RpA.append {vs ws : List V} {ds es : List PyData} {as bs : List Addr} (h : RpA K H vs ds as) (h' : RpA K H ws es bs) : RpA K H (vs ++ ws) (ds ++ es) (as ++ bs) := by
  induction ds generalizing vs as with
  | nil => cases h; exact h'
  | cons d ds ih => cases h with | cons h1 h2 => rw [List.append_assoc]; exact .cons h1 (ih h2)
theorem RpA.sub {Z : Addr → Prop} {vs vs' : List V} {ds ds' : List PyData} {as : List Addr} (h : RpA K H vs ds as) (hz : ∀ b ∈ as, Z b) (hl : vs'.length = ds'.length) (hs : ∀ (i : Nat) (v : V) (d : PyData), vs'[i]? = some v → ds'[i]? = some d → ∃ j : Nat, vs[j]? = some v ∧ ds[j]? = some d) :
    ∃ bs, RpA K H vs' ds' bs ∧ ∀ b ∈ bs, Z b := RpA.of hl fun i v d e1 e2 => by
  obtain ⟨j, q1, q2⟩ := hs i v d e1 e2
  obtain ⟨v', cs, p1, p2, p3⟩ := h.get q2
  rw [q1] at p1; cases p1
  exact ⟨cs, p2, fun b hb => hz b (p3 b hb)⟩
end

/-! ### slots, and who owns what -/
/-- sh: nobody changes it; ow: this name alone holds it; io: the caller's, handed in to be changed; lk: walked by a loop; ex: a caught error at a, of the class named c -/
inductive Sl where
  | sh (d : PyData) | ow (d : PyData) | io (d : PyData) | lk (d : PyData) | ex (a : Addr) (c : Str)
abbrev Env := List (Option Sl)
inductive Res where
  | sh (d : PyData) | ow (d : PyData)
def Sl.d : Sl → PyData
  | .sh d | .ow d | .io d | .lk d => d
  | .ex _ _ => .none
def Res.d : Res → PyData
  | .sh d | .ow d => d
def Sl.wr : Sl → Bool
  | .ow _ | .io _ => true
  | _ => false
abbrev Own := Nat → Option Addr
def Free (own : Own) (b : Addr) : Prop := ∀ i, own i ≠ some b
def Zf (al : Addr → Prop) (own : Own) (b : Addr) : Prop := al b ∧ Free own b
/-- may be changed by this code -/
def Wr (own : Own) (ρ : Env) (b : Addr) : Prop := ∃ i s, own i = some b ∧ ρ[i]? = some (some s) ∧ s.wr = true
/-- an object of one owner: the list (dict) at a, its items free -/
def OwV (K : PySem.W.Frag) (H : Hp) (Z : Addr → Prop) (v : V) (d : PyData) (a : Addr) : Prop :=
  v = .ref a ∧ ((∃ vs ds as, d = .list ds ∧ H a = some (.lst vs) ∧ RpA K H vs ds as ∧ ∀ b ∈ as, Z b) ∨ (∃ kvs ds as, d = .dict ds ∧ H a = some (.dK kvs) ∧ RpK K H kvs ds as ∧ ∀ b ∈ as, Z b))
def SlOk (K : PySem.W.Frag) (H : Hp) (al : Addr → Prop) (own : Own) (i : Nat) : Sl → V → Prop
  | .sh d, v => ∃ as, Rp K H v d as ∧ ∀ b ∈ as, Zf al own b
  | .ow d, v => ∃ a, own i = some a ∧ OwV K H (Zf al own) v d a ∧ al a
  | .io d, v => ∃ a, own i = some a ∧ OwV K H (Zf al own) v d a
  | .lk d, v => ∃ a, own i = some a ∧ OwV K H (Zf al own) v d a
  | .ex a _, v => v = .ref a
structure Pre (K : PySem.W.Frag) (al : Addr → Prop) (own : Own) (ρ : Env) (σ : St) (H : Hp) : Prop where
  fr : ∀ b, H b = none → al b
  inj : ∀ i j a, own i = some a → own j = some a → i = j
  mu : ∀ i a, own i = some a → ∃ o, H a = some o ∧ Mut (some o)
  len : ρ.length = σ.length
  sl : ∀ i s, ρ[i]? = some (some s) → ∃ v, σ[i]? = some (some v) ∧ SlOk K H al own i s v
/-- what code keeps of the heap, from (own, ρ, H) to (own', ρ', H') -/
structure Stp (own : Own) (ρ : Env) (H : Hp) (own' : Own) (ρ' : Env) (H' : Hp) : Prop where
  keep : ∀ b o, H b = some o → ¬ Wr own ρ b → H' b = some o
  dom : ∀ b, H' b = none → H b = none
  nw : ∀ i a, own' i = some a → (∃ j, own j = some a) ∨ H a = none
  fz : ∀ b, Wr own' ρ' b → Wr own ρ b ∨ H b = none
  lk : ∀ i d, ρ[i]? = some (some (.lk d)) → ρ'[i]? = some (some (.lk d)) ∧ own' i = own i
  io : ∀ i d, ρ[i]? = some (some (.io d)) → (∃ d', ρ'[i]? = some (some (.io d'))) ∧ own' i = own i
  ln : ρ'.length = ρ.length
section
variable {K : PySem.W.Frag} {al al' : Addr → Prop} {own own' own2 : Own} {ρ ρ' ρ2 : Env} {σ σ' : St} {H H' H2 : Hp}
theorem Stp.refl : Stp own ρ H own ρ H := ⟨fun _ _ e _ => e, fun _ e => e, fun i _ e => .inl ⟨i, e⟩, fun _ e => .inl e, fun _ _ e => ⟨e, rfl⟩, fun _ _ e => ⟨⟨_, e⟩, rfl⟩, rfl⟩
theorem Stp.trans (a : Stp own ρ H own' ρ' H') (b : Stp own' ρ' H' own2 ρ2 H2) : Stp own ρ H own2 ρ2 H2 where
  keep := fun c o e w => b.keep c o (a.keep c o e w) fun q => (a.fz c q).elim w fun z => by rw [z] at e; cases e
  dom := fun c e => a.dom c (b.dom c e)
  nw := fun i c e => (b.nw i c e).elim (fun ⟨j, e⟩ => a.nw j c e) fun z => .inr (a.dom c z)
  fz := fun c e => (b.fz c e).elim (a.fz c) fun z => .inr (a.dom c z)
  lk := fun i d e => by
    obtain ⟨q1, q2⟩ := a.lk i d e
    obtain ⟨q3, q4⟩ := b.lk i d q1
    exact ⟨q3, q4.trans q2⟩
  io := fun i d e => by
    obtain ⟨⟨d1, q1⟩, q2⟩ := a.io i d e
    obtain ⟨q3, q4⟩ := b.io i d1 q1
    exact ⟨q3, q4.trans q2⟩
  ln := b.ln.trans a.ln
theorem Stp.src (s : Stp own ρ H own' ρ' H') {a : Addr} (h : H' a = none ∨ Wr own' ρ' a) : H a = none ∨ Wr own ρ a := h.elim (fun z => .inl (s.dom _ z)) fun e => (s.fz _ e).elim .inr .inl
theorem Free.wr {b : Addr} (f : Free own b) : ¬ Wr own ρ b := fun ⟨i, _, e, _⟩ => f i e
theorem Pre.wrM (p : Pre K al own ρ σ H) : ∀ b, Wr own ρ b → ∃ o, H b = some o ∧ Mut (some o) := fun b ⟨i, _, e, _⟩ => p.mu i b e
theorem Pre.freeN (p : Pre K al own ρ σ H) {b : Addr} (h : H b = none) : Zf al own b := ⟨p.fr b h, fun i e => by
  obtain ⟨o, q, _⟩ := p.mu i b e
  rw [h] at q; cases q⟩
/-- free data stays as it is -/
theorem Stp.rp (s : Stp own ρ H own' ρ' H') (p : Pre K al own ρ σ H) {v : V} {d : PyData} {as : List Addr} (r : Rp K H v d as) (z : ∀ b ∈ as, Zf al own b) : Rp K H' v d as ∧ ∀ b ∈ as, Zf al own' b := by
  refine ⟨Rp.keep (W := Wr own ρ) s.keep p.wrM d v as r fun b hb => (z b hb).2.wr, fun b hb => ⟨(z b hb).1, fun i e => ?_⟩⟩
  rcases s.nw i b e with q | q
  · obtain ⟨j, q⟩ := q; exact (z b hb).2 j q
  · exact Rp.there d v as r b hb q
theorem Zf.mono {b : Addr} (h : Zf al own b) (ha : ∀ b, al b → al' b) : Zf al' own b := ⟨ha b h.1, h.2⟩
theorem OwV.mono {Z Z' : Addr → Prop} {v : V} {d : PyData} {a : Addr} (h : OwV K H Z v d a) (hz : ∀ b, Z b → Z' b) : OwV K H Z' v d a := by
  obtain ⟨e, ⟨vs, ds, as, h1, h2, h3, h4⟩ | ⟨vs, ds, as, h1, h2, h3, h4⟩⟩ := h
  · exact ⟨e, .inl ⟨vs, ds, as, h1, h2, h3, fun b hb => hz b (h4 b hb)⟩⟩
  · exact ⟨e, .inr ⟨vs, ds, as, h1, h2, h3, fun b hb => hz b (h4 b hb)⟩⟩
theorem SlOk.mono {i : Nat} {s : Sl} {v : V} (h : SlOk K H al own i s v) (ha : ∀ b, al b → al' b) : SlOk K H al' own i s v := by
  cases s with
  | sh d => obtain ⟨as, r, z⟩ := h; exact ⟨as, r, fun b hb => (z b hb).mono ha⟩
  | ow d => obtain ⟨a, e, r, z⟩ := h; exact ⟨a, e, r.mono fun b hb => hb.mono ha, ha a z⟩
  | io d => obtain ⟨a, e, r⟩ := h; exact ⟨a, e, r.mono fun b hb => hb.mono ha⟩
  | lk d => obtain ⟨a, e, r⟩ := h; exact ⟨a, e, r.mono fun b hb => hb.mono ha⟩
  | ex a c => exact h
theorem Pre.mono (p : Pre K al own ρ σ H) (ha : ∀ b, al b → al' b) : Pre K al' own ρ σ H :=
  ⟨fun b h => ha b (p.fr b h), p.inj, p.mu, p.len, fun i s e => let ⟨v, q1, q2⟩ := p.sl i s e; ⟨v, q1, q2.mono ha⟩⟩
/-- the heap grows by new objects -/
def Grow (H H' : Hp) : Prop := (∀ b o, H b = some o → H' b = some o) ∧ ∀ b, H' b = none → H b = none
theorem Grow.refl : Grow H H := ⟨fun _ _ e => e, fun _ e => e⟩
theorem Grow.upd {a : Addr} {o : HO} (h : H a = none) : Grow H (upd H a o) := ⟨fun b x e => by rw [upd_ne (ne_of_none e h)]; exact e, fun b e => by
  by_cases hb : b = a
  · rw [hb]; exact h
  · rw [upd_ne hb] at e; exact e⟩
theorem Grow.trans (a : Grow H H') (b : Grow H' H2) : Grow H H2 := ⟨fun c o e => b.1 c o (a.1 c o e), fun c e => a.2 c (b.2 c e)⟩
theorem Grow.rp (g : Grow H H') {v : V} {d : PyData} {as : List Addr} (r : Rp K H v d as) : Rp K H' v d as := Rp.keep (W := fun _ => False) (fun b o e _ => g.1 b o e) (fun _ z => z.elim) d v as r fun _ _ z => z
theorem Grow.rpA (g : Grow H H') {v : List V} {d : List PyData} {as : List Addr} (r : RpA K H v d as) : RpA K H' v d as := RpA.keep (W := fun _ => False) (fun b o e _ => g.1 b o e) (fun _ z => z.elim) d v as r fun _ _ z => z
theorem Grow.rpK (g : Grow H H') {v : List (Key × V)} {d : List (PyData × PyData)} {as : List Addr} (r : RpK K H v d as) : RpK K H' v d as := RpK.keep (W := fun _ => False) (fun b o e _ => g.1 b o e) (fun _ z => z.elim) d v as r fun _ _ z => z
theorem Grow.owV (g : Grow H H') {Z : Addr → Prop} {v : V} {d : PyData} {a : Addr} (h : OwV K H Z v d a) : OwV K H' Z v d a := by
  obtain ⟨e, ⟨vs, ds, as, h1, h2, h3, h4⟩ | ⟨vs, ds, as, h1, h2, h3, h4⟩⟩ := h
  · exact ⟨e, .inl ⟨vs, ds, as, h1, g.1 _ _ h2, g.rpA h3, h4⟩⟩
  · exact ⟨e, .inr ⟨vs, ds, as, h1, g.1 _ _ h2, g.rpK h3, h4⟩⟩
theorem Grow.slOk (g : Grow H H') {i : Nat} {s : Sl} {v : V} (h : SlOk K H al own i s v) : SlOk K H' al own i s v := by
  cases s with
  | sh d => obtain ⟨as, r, z⟩ := h; exact ⟨as, g.rp r, z⟩
  | ow d => obtain ⟨a, e, r, z⟩ := h; exact ⟨a, e, g.owV r, z⟩
  | io d => obtain ⟨a, e, r⟩ := h; exact ⟨a, e, g.owV r⟩
  | lk d => obtain ⟨a, e, r⟩ := h; exact ⟨a, e, g.owV r⟩
  | ex a c => exact h
theorem Pre.grow (p : Pre K al own ρ σ H) (g : Grow H H') : Pre K al own ρ σ H' :=
  ⟨fun b h => p.fr b (g.2 b h), p.inj, fun i a e => let ⟨o, q, m⟩ := p.mu i a e; ⟨o, g.1 a o q, m⟩, p.len, fun i s e => let ⟨v, q1, q2⟩ := p.sl i s e; ⟨v, q1, g.slOk q2⟩⟩
theorem Grow.stp (g : Grow H H') : Stp own ρ H own ρ H' := ⟨fun b o e _ => g.1 b o e, g.2, fun i _ e => .inl ⟨i, e⟩, fun _ e => .inl e, fun _ _ e => ⟨e, rfl⟩, fun _ _ e => ⟨⟨_, e⟩, rfl⟩, rfl⟩
/-- the addresses in a slot's value: they are there, and a new one is none of them -/
theorem SlOk.but {i : Nat} {s : Sl} {v : V} {a : Addr} (h : SlOk K H al own i s v) (hn : H a = none) : SlOk K H (fun b => al b ∧ b ≠ a) own i s v := by
  have ne : ∀ b, H b ≠ none → b ≠ a := fun b hb e => by rw [e] at hb; exact hb hn
  have neo : ∀ {b : Addr} {o : HO}, H b = some o → b ≠ a := fun {b o} hb => ne b (by rw [hb]; exact fun z => nomatch z)
  have ow : ∀ {d : PyData} {x : Addr}, OwV K H (Zf al own) v d x → OwV K H (Zf (fun b => al b ∧ b ≠ a) own) v d x ∧ x ≠ a := fun {d x} h => by
    obtain ⟨e, ⟨vs, ds, as, h1, h2, h3, h4⟩ | ⟨vs, ds, as, h1, h2, h3, h4⟩⟩ := h
    · exact ⟨⟨e, .inl ⟨vs, ds, as, h1, h2, h3, fun b hb => ⟨⟨(h4 b hb).1, ne b (RpA.there _ _ _ h3 b hb)⟩, (h4 b hb).2⟩⟩⟩, neo h2⟩
    · exact ⟨⟨e, .inr ⟨vs, ds, as, h1, h2, h3, fun b hb => ⟨⟨(h4 b hb).1, ne b (RpK.there _ _ _ h3 b hb)⟩, (h4 b hb).2⟩⟩⟩, neo h2⟩
  cases s with
  | sh d => obtain ⟨as, r, z⟩ := h; exact ⟨as, r, fun b hb => ⟨⟨(z b hb).1, ne b (Rp.there _ _ _ r b hb)⟩, (z b hb).2⟩⟩
  | ow d => obtain ⟨x, e, r, z⟩ := h; exact ⟨x, e, (ow r).1, z, (ow r).2⟩
  | io d => obtain ⟨x, e, r⟩ := h; exact ⟨x, e, (ow r).1⟩
  | lk d => obtain ⟨x, e, r⟩ := h; exact ⟨x, e, (ow r).1⟩
  | ex x c => exact h
/-- a new object is laid at a: nothing that stood leans on it -/
theorem Pre.lay (p : Pre K al own ρ σ H) {a : Addr} {o : HO} (hn : H a = none) : Pre K (fun b => al b ∧ b ≠ a) own ρ σ (upd H a o) where
  fr := fun b h => by
    have hb : b ≠ a := fun e => by rw [e, upd_same] at h; cases h
    rw [upd_ne hb] at h
    exact ⟨p.fr b h, hb⟩
  inj := p.inj
  mu := fun i b e => let ⟨x, q, m⟩ := p.mu i b e; ⟨x, (Grow.upd hn).1 b x q, m⟩
  len := p.len
  sl := fun i s e => let ⟨v, q1, q2⟩ := p.sl i s e; ⟨v, q1, (Grow.upd hn).slOk (q2.but hn)⟩
end
end Ev
set_option Elab.async false
set_option linter.all false
set_option autoImplicit false
set_option maxRecDepth 100000
/-! Ev2: evaluators, and what they say of the layer's readings. -/
namespace Ev
open PySem PySem.Spec L2
open PyProof.Rows hiding St

/-! bounds that no proof is to look into (the kernel may not count up to them) -/
noncomputable def lineN : Nat := Classical.choose (⟨16777216, rfl⟩ : ∃ n : Nat, n = 16777216)
theorem lineN_eq : lineN = 16777216 := Classical.choose_spec (⟨16777216, rfl⟩ : ∃ n : Nat, n = 16777216)
noncomputable def p62 : Int := Classical.choose (⟨2 ^ 62, rfl⟩ : ∃ n : Int, n = 2 ^ 62)
theorem p62_eq : p62 = 2 ^ 62 := Classical.choose_spec (⟨2 ^ 62, rfl⟩ : ∃ n : Int, n = 2 ^ 62)
noncomputable def n64 : Nat := Classical.choose (⟨2 ^ 64, rfl⟩ : ∃ n : Nat, n = 2 ^ 64)
theorem n64_eq : n64 = 2 ^ 64 := Classical.choose_spec (⟨2 ^ 64, rfl⟩ : ∃ n : Nat, n = 2 ^ 64)
noncomputable def bigN : Nat := Classical.choose (⟨130000000, rfl⟩ : ∃ n : Nat, n = 130000000)
theorem bigN_eq : bigN = 130000000 := Classical.choose_spec (⟨130000000, rfl⟩ : ∃ n : Nat, n = 130000000)
/-- told by a test that nothing computes -/
noncomputable def cdec (p : Prop) : Bool := @decide p (Classical.propDecidable p)
theorem cdec_of {p : Prop} (h : p) : cdec p = true := @decide_eq_true p (Classical.propDecidable p) h
theorem of_cdec {p : Prop} (h : cdec p = true) : p := @of_decide_eq_true p (Classical.propDecidable p) h
inductive Out (α : Type) where
  | ok (r : α) (ρ : Env) | exc (c : Str) (ρ : Env) | stuck
abbrev Ev := Env → Out Res
def OkE (K : PySem.W.Frag) (al : Addr → Prop) (own : Own) (ρ : Env) (σ : St) (H : Hp) (Q : VK) : Res → Env → Prop
  | .sh d, ρ' => ∀ v H' own' as, Pre K al own' ρ' σ H' → Stp own ρ H own' ρ' H' → Rp K H' v d as → (∀ b ∈ as, Zf al own' b) → Q v H'
  | .ow d, ρ' => ∀ v H' own' a, Pre K (fun b => al b ∧ b ≠ a) own' ρ' σ H' → Stp own ρ H own' ρ' H' → OwV K H' (Zf (fun b => al b ∧ b ≠ a) own') v d a → al a → Free own' a → (H a = none ∨ Wr own ρ a) → Q v H'
def ExE (K : PySem.W.Frag) (W : WX) (al : Addr → Prop) (own : Own) (ρ : Env) (σ : St) (H : Hp) (c : Str) (ρ' : Env) : Prop :=
  ∀ H' own', Pre K al own' ρ' σ H' → Stp own ρ H own' ρ' H' → W (.ref (He.ga K c)) none σ H'
def SemE (K : PySem.W.Frag) (W : WX) (f : Ev) : TE := fun σ H Q => ∃ al own ρ, Pre K al own ρ σ H ∧ match f ρ with
  | .ok r ρ' => OkE K al own ρ σ H Q r ρ'
  | .exc c ρ' => ExE K W al own ρ σ H c ρ'
  | .stuck => False
section
variable {K : PySem.W.Frag} {W : WX} {al : Addr → Prop} {own own' : Own} {ρ ρ' : Env} {σ : St} {H H' : Hp} {X : Cx}
theorem PE.imp {e : Expr} {t t' : TE} (h : PE X e t) (i : ∀ σ H Q, t' σ H Q → t σ H Q) : PE X e t' := ⟨fun pins s σ H Q I q => h.run pins s σ H Q I (i σ H Q q)⟩
theorem PT.imp {e : Expr} {t t' : TT} (h : PT X e t) (i : ∀ σ H Q, t' σ H Q → t σ H Q) : PT X e t' := ⟨fun pins s σ H Q I q => h.run pins s σ H Q I (i σ H Q q)⟩
theorem PW.imp {e : Expr} {t t' : TT} (h : PW X e t) (i : ∀ σ H Q, t' σ H Q → t σ H Q) : PW X e t' := ⟨fun wh pins s σ H Q I q => h.run wh pins s σ H Q I (i σ H Q q)⟩
theorem PA.imp {es : List Expr} {t t' : TA} (h : PA X es t) (i : ∀ σ H Q, t' σ H Q → t σ H Q) : PA X es t' := ⟨fun p pins s σ H Q I q => h.run p pins s σ H Q I (i σ H Q q)⟩
theorem PS.imp {st : Stmt} {t t' : TS} (h : PS X st t) (i : ∀ D σ H, t' D σ H → t D σ H) : PS X st t' := ⟨fun pins s σ H D I q => h.run pins s σ H D I (i D σ H q)⟩
theorem PSs.imp {st : List Stmt} {t t' : TS} (h : PSs X st t) (i : ∀ D σ H, t' D σ H → t D σ H) : PSs X st t' := ⟨fun pins s σ H D I q => h.run pins s σ H D I (i D σ H q)⟩
theorem al_but {a : Addr} : ∀ b, (fun b => al b ∧ b ≠ a) b → al b := fun _ h => h.1
theorem OwV.rp {Z : Addr → Prop} {v : V} {d : PyData} {a : Addr} (h : OwV K H Z v d a) : ∃ as, Rp K H v d (a :: as) ∧ ∀ b ∈ as, Z b := by
  obtain ⟨rfl, ⟨vs, ds, as, rfl, h2, h3, h4⟩ | ⟨vs, ds, as, rfl, h2, h3, h4⟩⟩ := h
  · exact ⟨as, .lst (.inl h2) h3, h4⟩
  · exact ⟨as, .dic (.inl h2) h3, h4⟩
/-- whatever it is, from now on nobody changes it -/
theorem OkE.share {Q : VK} {r : Res} (h : ∀ v H' own' as, Pre K al own' ρ' σ H' → Stp own ρ H own' ρ' H' → Rp K H' v r.d as → (∀ b ∈ as, Zf al own' b) → Q v H') : OkE K al own ρ σ H Q r ρ' := by
  cases r with
  | sh d => exact h
  | ow d =>
    intro v H' own' a p s o ha hf _
    obtain ⟨as, r, z⟩ := o.rp
    exact h v H' own' (a :: as) (p.mono al_but) s r fun b hb => (List.mem_cons.mp hb).elim (fun e => e ▸ ⟨ha, hf⟩) fun hb => (z b hb).mono al_but
theorem OkE.after {own1 : Own} {ρ1 : Env} {H1 : Hp} {Q : VK} {r : Res} (s : Stp own ρ H own1 ρ1 H1) (h : OkE K al own ρ σ H Q r ρ') : OkE K al own1 ρ1 σ H1 Q r ρ' := by
  cases r with
  | sh d => exact fun v H' own' as p s' => h v H' own' as p (s.trans s')
  | ow d => exact fun v H' own' as p s' o ha hf hw => h v H' own' as p (s.trans s') o ha hf (s.src hw)
theorem ExE.after {own1 : Own} {ρ1 : Env} {H1 : Hp} {c : Str} (s : Stp own ρ H own1 ρ1 H1) (h : ExE K W al own ρ σ H c ρ') : ExE K W al own1 ρ1 σ H1 c ρ' := fun H' own' p s' => h H' own' p (s.trans s')

/-! ### operands: a name that is looked at where it stands, or any expression -/
inductive Opd where
  | pl (i : Nat) | ex (f : Ev)
inductive Arg where
  | pl (i : Nat) | sh (d : PyData)
def evO : Opd → Env → Out Arg
  | .pl i, ρ => match ρ[i]? with
    | some (some _) => .ok (.pl i) ρ
    | _ => .stuck
  | .ex f, ρ => match f ρ with
    | .ok r ρ' => .ok (.sh r.d) ρ'
    | .exc c ρ' => .exc c ρ'
    | .stuck => .stuck
def evOs : List Opd → Env → Out (List Arg)
  | [], ρ => .ok [] ρ
  | o :: os, ρ => match evO o ρ with
    | .ok a ρ1 => (match evOs os ρ1 with
      | .ok as ρ2 => .ok (a :: as) ρ2
      | .exc c ρ2 => .exc c ρ2
      | .stuck => .stuck)
    | .exc c ρ1 => .exc c ρ1
    | .stuck => .stuck
def SemO (K : PySem.W.Frag) (W : WX) : Opd → TE
  | .pl i => tVar i
  | .ex f => SemE K W f
def ArgOk (K : PySem.W.Frag) (H : Hp) (al : Addr → Prop) (own : Own) (σ : St) : Arg → V → Prop
  | .pl i, v => σ[i]? = some (some v)
  | .sh d, v => ∃ as, Rp K H v d as ∧ ∀ b ∈ as, Zf al own b
def ArgsOk (K : PySem.W.Frag) (H : Hp) (al : Addr → Prop) (own : Own) (σ : St) : List Arg → List V → Prop
  | [], [] => True
  | a :: as, v :: vs => ArgOk K H al own σ a v ∧ ArgsOk K H al own σ as vs
  | _, _ => False
def SemOs (K : PySem.W.Frag) (W : WX) (os : List Opd) : TA := fun σ H Q => ∃ al own ρ, Pre K al own ρ σ H ∧ match evOs os ρ with
  | .ok as ρ' => ∀ vs H' own', Pre K al own' ρ' σ H' → Stp own ρ H own' ρ' H' → ArgsOk K H' al own' σ as vs → Q vs H'
  | .exc c ρ' => ExE K W al own ρ σ H c ρ'
  | .stuck => False
theorem ArgOk.step {a : Arg} {v : V} (s : Stp own ρ H own' ρ' H') (p : Pre K al own ρ σ H) (h : ArgOk K H al own σ a v) : ArgOk K H' al own' σ a v := by
  cases a with
  | pl i => exact h
  | sh d => obtain ⟨as, r, z⟩ := h; obtain ⟨r', z'⟩ := s.rp p r z; exact ⟨as, r', z'⟩
theorem semOs_nil {Q : List V → Hp → Prop} (h : SemOs K W [] σ H Q) : tNil σ H Q := by
  obtain ⟨al, own, ρ, p, h⟩ := h
  exact h [] H own p .refl trivial
theorem semOs_cons {o : Opd} {os : List Opd} {Q : List V → Hp → Prop} (h : SemOs K W (o :: os) σ H Q) : tCons (SemO K W o) (SemOs K W os) σ H Q := by
  obtain ⟨al, own, ρ, p, h⟩ := h
  simp only [evOs] at h
  cases o with
  | pl i =>
    simp only [evO] at h
    cases e : ρ[i]? with
    | none => simp only [e] at h
    | some s =>
      cases s with
      | none => simp only [e] at h
      | some s =>
        simp only [e] at h
        obtain ⟨v, hv, _⟩ := p.sl i s e
        refine ⟨v, hv, al, own, ρ, p, ?_⟩
        cases q : evOs os ρ with
        | ok as ρ2 => simp only [q] at h ⊢; exact fun vs H' own' p' s' a => h (v :: vs) H' own' p' s' ⟨hv, a⟩
        | exc c ρ2 => simp only [q] at h ⊢; exact h
        | stuck => simp only [q] at h
  | ex f =>
    simp only [evO] at h
    refine ⟨al, own, ρ, p, ?_⟩
    cases e : f ρ with
    | stuck => simp only [e] at h
    | exc c ρ1 => simp only [e] at h ⊢; exact h
    | ok r ρ1 =>
      simp only [e] at h ⊢
      refine OkE.share fun v H1 own1 as p1 s1 r1 z1 => ⟨al, own1, ρ1, p1, ?_⟩
      cases q : evOs os ρ1 with
      | ok as ρ2 => simp only [q] at h ⊢; exact fun vs H' own' p' s' a => h (v :: vs) H' own' p' (s1.trans s') ⟨ArgOk.step (a := .sh r.d) s' p1 ⟨_, r1, z1⟩, a⟩
      | exc c ρ2 => simp only [q] at h ⊢; exact h.after s1
      | stuck => simp only [q] at h
/-! ### what an operand shows -/
def look (ρ : Env) : Arg → Option PyData
  | .pl i => match ρ[i]? with
    | some (some (.ex _ _)) => none
    | some (some s) => some s.d
    | _ => none
  | .sh d => some d
def looks (ρ : Env) : List Arg → Option (List PyData)
  | [] => some []
  | a :: as => match look ρ a, looks ρ as with
    | some d, some ds => some (d :: ds)
    | _, _ => none
/-- v shows d: its own list may be somebody's, the items are free -/
def Vw (K : PySem.W.Frag) (H : Hp) (Z : Addr → Prop) (v : V) (d : PyData) : Prop := (∃ as, Rp K H v d as ∧ ∀ b ∈ as, Z b) ∨ ∃ a, OwV K H Z v d a
def VwA (K : PySem.W.Frag) (H : Hp) (Z : Addr → Prop) : List V → List PyData → Prop
  | [], [] => True
  | v :: vs, d :: ds => Vw K H Z v d ∧ VwA K H Z vs ds
  | _, _ => False
theorem ArgsOk.looks (p : Pre K al own ρ σ H) : ∀ {as : List Arg} {vs : List V} {ds : List PyData}, ArgsOk K H al own σ as vs → looks ρ as = some ds → VwA K H (Zf al own) vs ds
  | [], [], ds, _, h => by simp [Ev.looks] at h; subst h; trivial
  | [], _ :: _, _, h, _ => h.elim
  | _ :: _, [], _, h, _ => h.elim
  | a :: as, v :: vs, ds, ⟨h1, h2⟩, h => by
    simp only [Ev.looks] at h
    cases e : look ρ a with
    | none => simp [e] at h
    | some d =>
      cases q : Ev.looks ρ as with
      | none => simp [e, q] at h
      | some ds' =>
        simp [e, q] at h
        subst h
        refine ⟨?_, ArgsOk.looks p h2 q⟩
        cases a with
        | sh d' => simp [look] at e; subst e; exact .inl h1
        | pl i =>
          simp only [look] at e
          cases x : ρ[i]? with
          | none => simp [x] at e
          | some s =>
            cases s with
            | none => simp [x] at e
            | some s =>
              obtain ⟨v', e1, ok⟩ := p.sl i s x
              rw [show σ[i]? = some (some v) from h1] at e1
              cases e1
              cases s with
              | sh d => simp [x] at e; subst e; exact .inl ok
              | ow d => simp [x] at e; subst e; obtain ⟨a, _, o, _⟩ := ok; exact .inr ⟨a, o⟩
              | io d => simp [x] at e; subst e; obtain ⟨a, _, o⟩ := ok; exact .inr ⟨a, o⟩
              | lk d => simp [x] at e; subst e; obtain ⟨a, _, o⟩ := ok; exact .inr ⟨a, o⟩
              | ex a c => simp [x] at e
theorem Vw.rp {Z : Addr → Prop} {v : V} {d : PyData} (h : Vw K H Z v d) : ∃ as, Rp K H v d as := by
  rcases h with ⟨as, r, _⟩ | ⟨a, o⟩
  · exact ⟨as, r⟩
  · obtain ⟨as, r, _⟩ := o.rp; exact ⟨_, r⟩
theorem Vw.list {Z : Addr → Prop} {v : V} {ds : List PyData} (h : Vw K H Z v (.list ds)) : ∃ a vs as, v = .ref a ∧ SqL K H a vs ∧ RpA K H vs ds as ∧ ∀ b ∈ as, Z b := by
  rcases h with ⟨as, r, z⟩ | ⟨a, e, o⟩
  · cases r with
    | lst h1 h2 => exact ⟨_, _, _, rfl, .inl h1, h2, fun b hb => z b (by simp [hb])⟩
    | lsk h1 h2 => exact ⟨_, _, _, rfl, .inr h1, h2, z⟩
  · rcases o with ⟨vs, ds', as, e1, h2, h3, h4⟩ | ⟨vs, ds', as, e1, h2, h3, h4⟩
    · cases e1; exact ⟨a, vs, as, e, .inl (.inl h2), h3, h4⟩
    · cases e1
theorem Vw.dict {Z : Addr → Prop} {v : V} {ds : List (PyData × PyData)} (h : Vw K H Z v (.dict ds)) : ∃ a vs as, v = .ref a ∧ Rd H a (.dK vs) ∧ RpK K H vs ds as ∧ ∀ b ∈ as, Z b := by
  rcases h with ⟨as, r, z⟩ | ⟨a, e, o⟩
  · cases r with | dic h1 h2 => exact ⟨_, _, _, rfl, h1, h2, fun b hb => z b (by simp [hb])⟩
  · rcases o with ⟨vs, ds', as, e1, h2, h3, h4⟩ | ⟨vs, ds', as, e1, h2, h3, h4⟩
    · cases e1
    · cases e1; exact ⟨a, vs, as, e, .inl h2, h3, h4⟩
theorem Vw.tuple {Z : Addr → Prop} {v : V} {ds : List PyData} (h : Vw K H Z v (.tuple ds)) : ∃ a vs as, v = .ref a ∧ SqT K H a vs ∧ RpA K H vs ds as ∧ ∀ b ∈ as, Z b := by
  rcases h with ⟨as, r, z⟩ | ⟨a, e, o⟩
  · cases r with | tup h1 h2 => exact ⟨_, _, _, rfl, h1, h2, z⟩
  · rcases o with ⟨vs, ds', as, e1, h2, h3, h4⟩ | ⟨vs, ds', as, e1, h2, h3, h4⟩ <;> cases e1
theorem Vw.int {Z : Addr → Prop} {v : V} {i : Int} (h : Vw K H Z v (.int i)) : v = .int i := by obtain ⟨as, r⟩ := h.rp; cases r; rfl
theorem Vw.bl {Z : Addr → Prop} {v : V} {b : Bool} (h : Vw K H Z v (.bool b)) : v = .bl b := by obtain ⟨as, r⟩ := h.rp; cases r; rfl
theorem Vw.str {Z : Addr → Prop} {v : V} {x : Str} (h : Vw K H Z v (.str x)) : v = .str x := by obtain ⟨as, r⟩ := h.rp; cases r; rfl
theorem Vw.non {Z : Addr → Prop} {v : V} (h : Vw K H Z v .none) : v = .non := by obtain ⟨as, r⟩ := h.rp; cases r; rfl

/-! ### a plain operation on what the operands show -/
def PmQ (K : PySem.W.Frag) (Z : Addr → Prop) (H : Hp) (Q : VK) : Res → Prop
  | .sh d => ∀ v H' as, Grow H H' → Rp K H' v d as → (∀ b ∈ as, Z b ∨ H b = none) → Q v H'
  | .ow d => ∀ v H' a, Grow H H' → H a = none → OwV K H' (fun b => Z b ∧ H b ≠ none) v d a → Q v H'
def PmOk (K : PySem.W.Frag) (r : List V → Hp → VK → Prop) (p : List PyData → Option Res) : Prop :=
  ∀ (Z : Addr → Prop) (H : Hp) (vs : List V) (ds : List PyData) (res : Res) (Q : VK), VwA K H Z vs ds → p ds = some res → PmQ K Z H Q res → r vs H Q
/-- the result, seen from the operands' state -/
theorem PmQ.of {Q : VK} {r : Res} (p : Pre K al own ρ' σ H') (h : OkE K al own ρ' σ H' Q r ρ') : PmQ K (Zf al own) H' Q r := by
  cases r with
  | sh d => exact fun v H2 as g r z => h v H2 own as (p.grow g) g.stp r fun b hb => (z b hb).elim id fun n => p.freeN n
  | ow d =>
    intro v H2 a g n o
    have hp : Pre K (fun b => al b ∧ b ≠ a) own ρ' σ H2 := ⟨fun b e => ⟨p.fr b (g.2 b e), fun q => by
        obtain ⟨rfl, ⟨vs, ds, as, _, h2, _, _⟩ | ⟨vs, ds, as, _, h2, _, _⟩⟩ := o <;> (rw [q, h2] at e; cases e)⟩,
      p.inj, fun i b e => let ⟨x, q, m⟩ := p.mu i b e; ⟨x, g.1 b x q, m⟩, p.len, fun i s e => let ⟨v, q1, q2⟩ := p.sl i s e; ⟨v, q1, g.slOk (q2.but n)⟩⟩
    exact h v H2 own a hp g.stp (o.mono fun b ⟨z, t⟩ => ⟨⟨z.1, fun e => t (e ▸ n)⟩, z.2⟩) (p.fr a n) (p.freeN n).2 (.inl n)
def evPm (p : List PyData → Option Res) (os : List Opd) : Ev := fun ρ => match evOs os ρ with
  | .ok as ρ' => (match looks ρ' as with
    | some ds => (match p ds with
      | some r => .ok r ρ'
      | none => .stuck)
    | none => .stuck)
  | .exc c ρ' => .exc c ρ'
  | .stuck => .stuck
theorem semPm {r : List V → Hp → VK → Prop} {p : List PyData → Option Res} (ok : PmOk K r p) {os : List Opd} {Q : VK} (h : SemE K W (evPm p os) σ H Q) : SemOs K W os σ H fun vs H' => r vs H' Q := by
  obtain ⟨al, own, ρ, pr, h⟩ := h
  refine ⟨al, own, ρ, pr, ?_⟩
  simp only [evPm] at h
  cases e : evOs os ρ with
  | stuck => simp only [e] at h
  | exc c ρ' => simp only [e] at h ⊢; exact h
  | ok as ρ' =>
    simp only [e] at h ⊢
    intro vs H' own' p' s' ao
    cases l : looks ρ' as with
    | none => simp only [l] at h
    | some ds =>
      simp only [l] at h
      cases q : p ds with
      | none => simp only [q] at h
      | some r' =>
        simp only [q] at h
        exact ok (Zf al own') H' vs ds r' Q (ao.looks p' l) q (PmQ.of p' (OkE.after s' h))
theorem SemO.mono {o : Opd} {Q Q' : VK} (h : SemO K W o σ H Q) (i : ∀ v H, Q v H → Q' v H) : SemO K W o σ H Q' := by
  cases o with
  | pl j => obtain ⟨v, e, q⟩ := h; exact ⟨v, e, i v H q⟩
  | ex f =>
    obtain ⟨al, own, ρ, p, q⟩ := h
    refine ⟨al, own, ρ, p, ?_⟩
    cases e : f ρ with
    | stuck => simp only [e] at q
    | exc c ρ1 => simp only [e] at q ⊢; exact q
    | ok r ρ1 =>
      simp only [e] at q ⊢
      cases r with
      | sh d => exact fun v H' own' as a b c d => i _ _ (q v H' own' as a b c d)
      | ow d => exact fun v H' own' as a b c d e f => i _ _ (q v H' own' as a b c d e f)
/-- one, two operands -/
theorem sem1 {o : Opd} {R : List V → Hp → Prop} (h : SemOs K W [o] σ H R) : SemO K W o σ H fun x H1 => R [x] H1 :=
  SemO.mono (semOs_cons h) fun x H1 q => semOs_nil q
theorem sem2 {o o' : Opd} {R : List V → Hp → Prop} (h : SemOs K W [o, o'] σ H R) : SemO K W o σ H fun x H1 => SemO K W o' σ H1 fun y H2 => R [x, y] H2 :=
  SemO.mono (semOs_cons h) fun x H1 q => sem1 q
theorem SemE.mono {f : Ev} {Q Q' : VK} (h : SemE K W f σ H Q) (i : ∀ v H, Q v H → Q' v H) : SemE K W f σ H Q' := SemO.mono (o := .ex f) h i
/-- the operands' expressions -/
def POs (X : Cx) (W : WX) : List Expr → List Opd → Prop
  | [], [] => True
  | e :: es, o :: os => PE X e (SemO X.K W o) ∧ POs X W es os
  | _, _ => False
theorem starEach_cons {env : PySem.Env} : ∀ (e : Expr) (es : List Expr), (match e with | .Starred .. => false | _ => true) = true → starEach (e :: es) env = (false, eval e env) :: starEach es env := by
  intro e es h
  cases e <;> first | rfl | cases h
end
end Ev
set_option Elab.async false
set_option linter.all false
set_option autoImplicit false
set_option maxRecDepth 100000
/-! Ev3: expressions. -/
namespace Ev
open PySem PySem.Spec L2
open PyProof.Rows hiding St
section
variable {K : PySem.W.Frag} {W : WX} {al : Addr → Prop} {own own' : Own} {ρ ρ' : Env} {σ : St} {H H' : Hp} {X : Cx} {pos : Pos}
/-! ### constants, names -/
def evC (d : PyData) : Ev := fun ρ => .ok (.sh d) ρ
theorem semC {d : PyData} {v : V} (hr : ∀ H, Rp K H v d []) {Q : VK} (h : SemE K W (evC d) σ H Q) : Q v H := by
  obtain ⟨al, own, ρ, p, h⟩ := h
  exact h v H own [] p .refl (hr H) fun _ z => nomatch z
theorem pe_cInt {i : Int} {j : Nat} : PE X (.Constant (.int i) j pos) (SemE X.K W (evC (.int i))) := PE.imp pe_int fun σ H Q h => semC (fun _ => .int i) h
theorem pe_cStr {x : Str} {j : Nat} : PE X (.Constant (.str x) j pos) (SemE X.K W (evC (.str x))) := PE.imp pe_str fun σ H Q h => semC (fun _ => .str x) h
theorem pe_cBl {x : Bool} {j : Nat} : PE X (.Constant (.bool x) j pos) (SemE X.K W (evC (.bool x))) := PE.imp pe_bl fun σ H Q h => semC (fun _ => .bl x) h
theorem pe_cNon {j : Nat} : PE X (.Constant .none j pos) (SemE X.K W (evC .none)) := PE.imp pe_non fun σ H Q h => semC (fun _ => .non) h
/-- a module's constant -/
theorem pe_cGlob {x : Str} {d : PyData} {v : V} {u : Value} (hr : ∀ H, Rp X.K H v d []) (hg : Gl X x) (hm : X.mg x = some u) (r : RelV v u) (hd : (x == ("__debug__" : Str)) = false := by decide) : PE X (.Name x pos) (SemE X.K W (evC d)) :=
  PE.imp (pe_glob hg hm r hd) fun σ H Q h => semC hr h
/-- a name's value, given away: from now on nobody changes it -/
def evVar (i : Nat) : Ev := fun ρ => match ρ[i]? with
  | some (some (.sh d)) => .ok (.sh d) ρ
  | some (some (.ow d)) => .ok (.sh d) (ρ.set i (some (.sh d)))
  | _ => .stuck
/-- own without i -/
def Own.drop (own : Own) (i : Nat) : Own := fun j => if j = i then none else own j
theorem Own.drop_some {own : Own} {i j : Nat} {a : Addr} (h : own.drop i j = some a) : own j = some a ∧ j ≠ i := by
  unfold Own.drop at h
  by_cases e : j = i
  · rw [if_pos e] at h; cases h
  · rw [if_neg e] at h; exact ⟨h, e⟩
theorem Own.drop_ne {own : Own} {i j : Nat} (h : j ≠ i) : own.drop i j = own j := if_neg h
theorem Free.drop {i : Nat} {b : Addr} (h : Free own b) : Free (own.drop i) b := fun j e => h j (Own.drop_some e).1
theorem Zf.drop {i : Nat} {b : Addr} (h : Zf al own b) : Zf al (own.drop i) b := ⟨h.1, h.2.drop⟩
theorem SlOk.drop {i j : Nat} {s : Sl} {v : V} (h : SlOk K H al own j s v) (hj : j ≠ i) : SlOk K H al (own.drop i) j s v := by
  cases s with
  | sh d => obtain ⟨as, r, z⟩ := h; exact ⟨as, r, fun b hb => (z b hb).drop⟩
  | ow d => obtain ⟨a, e, r, z⟩ := h; exact ⟨a, by rw [Own.drop_ne hj]; exact e, r.mono fun b hb => hb.drop, z⟩
  | io d => obtain ⟨a, e, r⟩ := h; exact ⟨a, by rw [Own.drop_ne hj]; exact e, r.mono fun b hb => hb.drop⟩
  | lk d => obtain ⟨a, e, r⟩ := h; exact ⟨a, by rw [Own.drop_ne hj]; exact e, r.mono fun b hb => hb.drop⟩
  | ex a c => exact h
theorem getElem?_set_cases {α : Type} {l : List α} {i j : Nat} {x y : α} (h : (l.set i x)[j]? = some y) : (j = i ∧ y = x ∧ i < l.length) ∨ (j ≠ i ∧ l[j]? = some y) := by
  by_cases e : i = j
  · subst e
    by_cases hl : i < l.length
    · rw [List.getElem?_set_self hl] at h; exact .inl ⟨rfl, (Option.some.inj h).symm, hl⟩
    · rw [List.getElem?_eq_none (by simpa using hl)] at h; cases h
  · rw [List.getElem?_set_ne e] at h; exact .inr ⟨fun z => e z.symm, h⟩
theorem semVar {i : Nat} {Q : VK} (h : SemE K W (evVar i) σ H Q) : tVar i σ H Q := by
  obtain ⟨al, own, ρ, p, h⟩ := h
  simp only [evVar] at h
  cases e : ρ[i]? with
  | none => simp only [e] at h
  | some s =>
    cases s with
    | none => simp only [e] at h
    | some s =>
      obtain ⟨v, hv, ok⟩ := p.sl i s e
      refine ⟨v, hv, ?_⟩
      cases s with
      | sh d =>
        simp only [e] at h
        obtain ⟨as, r, z⟩ := ok
        exact h v H own as p .refl r z
      | ow d =>
        simp only [e] at h
        obtain ⟨a, ea, o, ha⟩ := ok
        obtain ⟨as, r, z⟩ := o.rp
        have fa : Free (own.drop i) a := fun j q => (Own.drop_some q).2 (p.inj _ _ a (Own.drop_some q).1 ea)
        have zr : ∀ b ∈ a :: as, Zf al (own.drop i) b := fun b hb => (List.mem_cons.mp hb).elim (fun q => q ▸ ⟨ha, fa⟩) fun hb => (z b hb).drop
        have pr : Pre K al (own.drop i) (ρ.set i (some (.sh d))) σ H := ⟨p.fr, fun j k b e1 e2 => p.inj j k b (Own.drop_some e1).1 (Own.drop_some e2).1, fun j b e1 => p.mu j b (Own.drop_some e1).1, by rw [List.length_set]; exact p.len, fun j s' e1 => by
          rcases getElem?_set_cases e1 with ⟨rfl, e2, _⟩ | ⟨hj, e2⟩
          · cases e2; exact ⟨v, hv, _, r, zr⟩
          · obtain ⟨v', h1, h2⟩ := p.sl j s' e2; exact ⟨v', h1, h2.drop hj⟩⟩
        have st : Stp own ρ H (own.drop i) (ρ.set i (some (.sh d))) H := ⟨fun _ _ q _ => q, fun _ q => q, fun j b q => .inl ⟨j, (Own.drop_some q).1⟩, fun b ⟨j, s', q1, q2, q3⟩ => by
            rcases getElem?_set_cases q2 with ⟨_, e2, _⟩ | ⟨hj, e2⟩
            · cases e2; cases q3
            · exact .inl ⟨j, s', (Own.drop_some q1).1, e2, q3⟩,
          fun j d' q => by
            have hj : j ≠ i := fun z => by subst z; rw [e] at q; cases q
            exact ⟨by rw [List.getElem?_set_ne (Ne.symm hj)]; exact q, Own.drop_ne hj⟩,
          fun j d' q => by
            have hj : j ≠ i := fun z => by subst z; rw [e] at q; cases q
            exact ⟨⟨d', by rw [List.getElem?_set_ne (Ne.symm hj)]; exact q⟩, Own.drop_ne hj⟩, List.length_set ..⟩
        exact h v H _ (a :: as) pr st r zr
      | io d => simp only [e] at h
      | lk d => simp only [e] at h
      | ex a c => simp only [e] at h
theorem pe_nm {i : Nat} {x : Str} (h : PE X (.Name x pos) (tVar i)) : PE X (.Name x pos) (SemE X.K W (evVar i)) := PE.imp h fun σ H Q h => semVar h
theorem pe_at {i : Nat} {x : Str} (h : PE X (.Name x pos) (tVar i)) : PE X (.Name x pos) (SemO X.K W (.pl i)) := h
theorem pe_ex {e : Expr} {f : Ev} (h : PE X e (SemE X.K W f)) : PE X e (SemO X.K W (.ex f)) := h
/-! ### operators -/
def r2l (r : R2) : List V → Hp → VK → Prop := fun vs H Q => match vs with
  | [x, y] => r x y H Q
  | _ => False
def pm2 (f : PyData → PyData → Option Res) : List PyData → Option Res
  | [a, b] => f a b
  | _ => none
def pm1 (f : PyData → Option Res) : List PyData → Option Res
  | [a] => f a
  | _ => none
def Ok2 (K : PySem.W.Frag) (r : R2) (f : PyData → PyData → Option Res) : Prop :=
  ∀ (Z : Addr → Prop) (H : Hp) (x y : V) (d e : PyData) (res : Res) (Q : VK), Vw K H Z x d → Vw K H Z y e → f d e = some res → PmQ K Z H Q res → r x y H Q
theorem pm2_ok {r : R2} {f : PyData → PyData → Option Res} (h : Ok2 K r f) : PmOk K (r2l r) (pm2 f) := by
  intro Z H vs ds res Q hv he hq
  match vs, ds, hv, he with
  | [x, y], [d, e], hv, he => exact h Z H x y d e res Q hv.1 hv.2.1 he hq
  | [], [], _, he => cases he
  | [_], [_], _, he => cases he
  | _ :: _ :: _ :: _, _ :: _ :: _ :: _, _, he => cases he
theorem pe_bin {op : Operator} {r : R2} {f : PyData → PyData → Option Res} {a b : Expr} {oa ob : Opd} (ho : OpR X (binaryOp op) r) (ok : Ok2 X.K r f) (ha : PE X a (SemO X.K W oa)) (hb : PE X b (SemO X.K W ob)) :
    PE X (.BinOp a op b pos) (SemE X.K W (evPm (pm2 f) [oa, ob])) := PE.imp (pe_op ho ha hb) fun σ H Q h => sem2 (semPm (pm2_ok ok) h)
theorem pe_cm {op : CmpOp} {r : R2} {f : PyData → PyData → Option Res} {a b : Expr} {oa ob : Opd} (ho : OpR X (compareOp op) r) (ok : Ok2 X.K r f) (ha : PE X a (SemO X.K W oa)) (hb : PE X b (SemO X.K W ob)) (hm : behindInMarks op b = false) :
    PE X (.Compare a [op] [b] pos) (SemE X.K W (evPm (pm2 f) [oa, ob])) := PE.imp (pe_cmpR ho ha hb hm) fun σ H Q h => sem2 (semPm (pm2_ok ok) h)
/-! ### tests -/
abbrev Tv := Env → Out Bool
def SemT (K : PySem.W.Frag) (W : WX) (g : Tv) : TT := fun σ H Q => ∃ al own ρ, Pre K al own ρ σ H ∧ match g ρ with
  | .ok b ρ' => ∀ H' own', Pre K al own' ρ' σ H' → Stp own ρ H own' ρ' H' → Q b H'
  | .exc c ρ' => ExE K W al own ρ σ H c ρ'
  | .stuck => False
def truthD : PyData → Option Bool
  | .none => some false
  | .bool b => some b
  | .int i => some (i != 0)
  | .list ds => some (!ds.isEmpty)
  | .tuple ds => some (!ds.isEmpty)
  | _ => none
def tvOf (f : Ev) : Tv := fun ρ => match f ρ with
  | .ok r ρ' => (match truthD r.d with
    | some b => .ok b ρ'
    | none => .stuck)
  | .exc c ρ' => .exc c ρ'
  | .stuck => .stuck
theorem RpA.isEmpty {vs : List V} {ds : List PyData} {as : List Addr} (h : RpA K H vs ds as) : vs.isEmpty = ds.isEmpty := by cases h <;> rfl
theorem truth_ok {v : V} {d : PyData} {as : List Addr} {b : Bool} (r : Rp K H v d as) (h : truthD d = some b) : TruV K v H b := by
  cases r with
  | non => cases h; rfl
  | bl x => cases h; rfl
  | int i => cases h; rfl
  | str x => cases h
  | lst h1 h2 => cases h; exact .inl ⟨_, .inl h1, by rw [h2.isEmpty]⟩
  | lsk h1 h2 => cases h; exact .inl ⟨_, .inr h1, by rw [h2.isEmpty]⟩
  | tup h1 h2 => cases h; exact .inr (.inl ⟨_, h1, by rw [h2.isEmpty]⟩)
  | dic h1 h2 => cases h
theorem semTv {f : Ev} {Q : Bool → Hp → Prop} (h : SemT K W (tvOf f) σ H Q) : SemE K W f σ H fun x H1 => ∃ d as, Rp K H1 x d as ∧ ∀ b, truthD d = some b → Q b H1 := by
  obtain ⟨al, own, ρ, p, h⟩ := h
  refine ⟨al, own, ρ, p, ?_⟩
  simp only [tvOf] at h
  cases e : f ρ with
  | stuck => simp only [e] at h
  | exc c ρ' => simp only [e] at h ⊢; exact h
  | ok r ρ' =>
    simp only [e] at h ⊢
    refine OkE.share fun v H' own' as p' s' r' z' => ⟨r.d, as, r', fun b q => ?_⟩
    simp only [q] at h
    exact h H' own' p' s'
theorem semTv' {f : Ev} {Q : Bool → Hp → Prop} (h : SemT K W (tvOf f) σ H Q) : SemE K W f σ H fun x H1 => ∃ d as b, Rp K H1 x d as ∧ truthD d = some b ∧ Q b H1 := by
  obtain ⟨al, own, ρ, p, h⟩ := h
  refine ⟨al, own, ρ, p, ?_⟩
  simp only [tvOf] at h
  cases e : f ρ with
  | stuck => simp only [e] at h
  | exc c ρ' => simp only [e] at h ⊢; exact h
  | ok r ρ' =>
    simp only [e] at h ⊢
    cases q : truthD r.d with
    | none => simp only [q] at h
    | some b =>
      simp only [q] at h
      exact OkE.share fun v H' own' as p' s' r' z' => ⟨r.d, as, b, r', q, h H' own' p' s'⟩
/-- an expression's truth (no comparison, no and | or | not) -/
theorem pt_ev {e : Expr} {f : Ev} (h : PE X e (SemE X.K W f)) (he : ∀ whole, isTrue e X.env whole = (do let v ← whole; standAt e.pos; holding [v] (truthy v)) := by intro _; rfl) : PT X e (SemT X.K W (tvOf f)) :=
  PT.imp (pt_truth h he) fun σ H Q q => SemE.mono (semTv' q) fun v H1 ⟨d, as, b, r, t, q⟩ => ⟨b, truth_ok r t, q⟩
theorem evPm_some {p : List PyData → Option Res} {os : List Opd} {r : Res} (e : evPm p os ρ = .ok r ρ') : ∃ ds, p ds = some r := by
  simp only [evPm] at e
  cases e1 : evOs os ρ with
  | stuck => simp only [e1] at e; cases e
  | exc c ρ1 => simp only [e1] at e; cases e
  | ok as ρ1 =>
    simp only [e1] at e
    cases e2 : looks ρ1 as with
    | none => simp only [e2] at e; cases e
    | some ds =>
      simp only [e2] at e
      cases e3 : p ds with
      | none => simp only [e3] at e; cases e
      | some r' => simp only [e3] at e; cases e; exact ⟨ds, e3⟩
/-- a comparison as a test -/
theorem pt_cm {op : CmpOp} {r : R2} {f : PyData → PyData → Option Res} {a b : Expr} {oa ob : Opd} (ho : OpR X (compareOp op) r) (ok : Ok2 X.K r f) (ha : PE X a (SemO X.K W oa)) (hb : PE X b (SemO X.K W ob)) (hm : behindInMarks op b = false) (hbool : ∀ d e res, f d e = some res → ∃ k, res = .sh (.bool k)) :
    PT X (.Compare a [op] [b] pos) (SemT X.K W (tvOf (evPm (pm2 f) [oa, ob]))) := PT.imp (pt_cmpR ho ha hb hm) fun σ H Q h => by
  refine sem2 (semPm (pm2_ok ok) (Q := fun x H' => ∃ k, x = .bl k ∧ Q k H') ?_)
  obtain ⟨al, own, ρ, p, h⟩ := h
  refine ⟨al, own, ρ, p, ?_⟩
  simp only [tvOf] at h
  cases e : evPm (pm2 f) [oa, ob] ρ with
  | stuck => simp only [e] at h
  | exc c ρ' => simp only [e] at h ⊢; exact h
  | ok r' ρ' =>
    simp only [e] at h ⊢
    obtain ⟨ds, e3⟩ := evPm_some e
    obtain ⟨k, rfl⟩ : ∃ k, r' = .sh (.bool k) := by
      match ds, e3 with
      | [d, e'], e3 => exact hbool d e' _ e3
    simp only [Res.d, truthD] at h
    intro v H' own' as p' s' r' z'
    cases r'
    exact ⟨k, rfl, h H' own' p' s'⟩
def tvAnd (a b : Tv) : Tv := fun ρ => match a ρ with
  | .ok true ρ' => b ρ'
  | .ok false ρ' => .ok false ρ'
  | .exc c ρ' => .exc c ρ'
  | .stuck => .stuck
def tvOr (a b : Tv) : Tv := fun ρ => match a ρ with
  | .ok true ρ' => .ok true ρ'
  | .ok false ρ' => b ρ'
  | .exc c ρ' => .exc c ρ'
  | .stuck => .stuck
def tvNot (a : Tv) : Tv := fun ρ => match a ρ with
  | .ok b ρ' => .ok (!b) ρ'
  | .exc c ρ' => .exc c ρ'
  | .stuck => .stuck
theorem semT_after {g : Tv} {Q : Bool → Hp → Prop} {own1 : Own} {ρ1 : Env} {H1 : Hp} (p1 : Pre K al own1 ρ1 σ H1) (s : Stp own ρ H own1 ρ1 H1) (h : match g ρ1 with
    | .ok b ρ' => ∀ H' own', Pre K al own' ρ' σ H' → Stp own ρ H own' ρ' H' → Q b H'
    | .exc c ρ' => ExE K W al own ρ σ H c ρ'
    | .stuck => False) : SemT K W g σ H1 Q := by
  refine ⟨al, own1, ρ1, p1, ?_⟩
  cases e : g ρ1 with
  | stuck => simp only [e] at h
  | exc c ρ' => simp only [e] at h ⊢; exact h.after s
  | ok b ρ' => simp only [e] at h ⊢; exact fun H' own' p' s' => h H' own' p' (s.trans s')
theorem semAnd {a b : Tv} {Q : Bool → Hp → Prop} (h : SemT K W (tvAnd a b) σ H Q) : tAnd (SemT K W a) (SemT K W b) σ H Q := by
  obtain ⟨al, own, ρ, p, h⟩ := h
  refine ⟨al, own, ρ, p, ?_⟩
  simp only [tvAnd] at h
  cases e : a ρ with
  | stuck => simp only [e] at h
  | exc c ρ' => simp only [e] at h ⊢; exact h
  | ok k ρ' =>
    cases k with
    | true => simp only [e] at h ⊢; intro H' own' p' s'; rw [if_pos trivial]; exact semT_after p' s' h
    | false => simp only [e] at h ⊢; intro H' own' p' s'; rw [if_neg Bool.false_ne_true]; exact h H' own' p' s'
theorem semOr {a b : Tv} {Q : Bool → Hp → Prop} (h : SemT K W (tvOr a b) σ H Q) : tOr (SemT K W a) (SemT K W b) σ H Q := by
  obtain ⟨al, own, ρ, p, h⟩ := h
  refine ⟨al, own, ρ, p, ?_⟩
  simp only [tvOr] at h
  cases e : a ρ with
  | stuck => simp only [e] at h
  | exc c ρ' => simp only [e] at h ⊢; exact h
  | ok k ρ' =>
    cases k with
    | false => simp only [e] at h ⊢; intro H' own' p' s'; rw [if_neg Bool.false_ne_true]; exact semT_after p' s' h
    | true => simp only [e] at h ⊢; intro H' own' p' s'; rw [if_pos trivial]; exact h H' own' p' s'
theorem semNot {a : Tv} {Q : Bool → Hp → Prop} (h : SemT K W (tvNot a) σ H Q) : tNot (SemT K W a) σ H Q := by
  obtain ⟨al, own, ρ, p, h⟩ := h
  refine ⟨al, own, ρ, p, ?_⟩
  simp only [tvNot] at h
  cases e : a ρ with
  | stuck => simp only [e] at h
  | exc c ρ' => simp only [e] at h ⊢; exact h
  | ok k ρ' => simp only [e] at h ⊢; exact h
variable {a b : Expr} {ta tb : Tv} {rest : List Expr}
theorem pw_a1 (ha : PT X a (SemT X.K W ta)) : PW X (.BoolOp .And [a] pos) (SemT X.K W ta) := pw_and1 ha
theorem pw_o1 (ha : PT X a (SemT X.K W ta)) : PW X (.BoolOp .Or [a] pos) (SemT X.K W ta) := pw_or1 ha
theorem pw_a (ha : PT X a (SemT X.K W ta)) (hb : PW X (.BoolOp .And (b :: rest) pos) (SemT X.K W tb)) : PW X (.BoolOp .And (a :: b :: rest) pos) (SemT X.K W (tvAnd ta tb)) := PW.imp (pw_and ha hb) fun _ _ _ h => semAnd h
theorem pw_o (ha : PT X a (SemT X.K W ta)) (hb : PW X (.BoolOp .Or (b :: rest) pos) (SemT X.K W tb)) : PW X (.BoolOp .Or (a :: b :: rest) pos) (SemT X.K W (tvOr ta tb)) := PW.imp (pw_or ha hb) fun _ _ _ h => semOr h
theorem pt_n (ha : PT X a (SemT X.K W ta)) : PT X (.UnaryOp .Not a pos) (SemT X.K W (tvNot ta)) := PT.imp (pt_not ha) fun _ _ _ h => semNot h
/-! ### and, or, not of truth values; a if t else b -/
def boolR : Res → Option Bool
  | .sh (.bool b) => some b
  | _ => none
def evAnd (a b : Ev) : Ev := fun ρ => match a ρ with
  | .ok r ρ' => (match boolR r with
    | some true => b ρ'
    | some false => .ok (.sh (.bool false)) ρ'
    | none => .stuck)
  | .exc c ρ' => .exc c ρ'
  | .stuck => .stuck
def evOr (a b : Ev) : Ev := fun ρ => match a ρ with
  | .ok r ρ' => (match boolR r with
    | some true => .ok (.sh (.bool true)) ρ'
    | some false => b ρ'
    | none => .stuck)
  | .exc c ρ' => .exc c ρ'
  | .stuck => .stuck
def evNot (a : Ev) : Ev := fun ρ => match a ρ with
  | .ok r ρ' => (match boolR r with
    | some k => .ok (.sh (.bool (!k))) ρ'
    | none => .stuck)
  | .exc c ρ' => .exc c ρ'
  | .stuck => .stuck
theorem boolR_eq {r : Res} {k : Bool} (h : boolR r = some k) : r = .sh (.bool k) := by
  cases r with
  | ow d => cases h
  | sh d => cases d <;> first | (cases h; rfl) | cases h
theorem semE_after {f : Ev} {Q : VK} {own1 : Own} {ρ1 : Env} {H1 : Hp} (p1 : Pre K al own1 ρ1 σ H1) (s : Stp own ρ H own1 ρ1 H1) (h : match f ρ1 with
    | .ok r ρ' => OkE K al own ρ σ H Q r ρ'
    | .exc c ρ' => ExE K W al own ρ σ H c ρ'
    | .stuck => False) : SemE K W f σ H1 Q := by
  refine ⟨al, own1, ρ1, p1, ?_⟩
  cases e : f ρ1 with
  | stuck => simp only [e] at h
  | exc c ρ' => simp only [e] at h ⊢; exact h.after s
  | ok r ρ' => simp only [e] at h ⊢; exact h.after s
theorem semAndV {fa fb : Ev} {Q : VK} (h : SemE K W (evAnd fa fb) σ H Q) : tAndV (SemE K W fa) (SemE K W fb) σ H Q := by
  obtain ⟨al, own, ρ, p, h⟩ := h
  refine ⟨al, own, ρ, p, ?_⟩
  simp only [evAnd] at h
  cases e : fa ρ with
  | stuck => simp only [e] at h
  | exc c ρ' => simp only [e] at h ⊢; exact h
  | ok r ρ' =>
    simp only [e] at h ⊢
    cases q : boolR r with
    | none => simp only [q] at h
    | some k =>
      have er := boolR_eq q
      subst er
      intro v H' own' as p' s' r' z'
      cases r'
      refine ⟨k, rfl, ?_⟩
      cases k with
      | true => rw [if_pos rfl]; simp only [boolR] at h; exact semE_after p' s' h
      | false => rw [if_neg Bool.false_ne_true]; simp only [boolR] at h; exact h _ H' own' [] p' s' (.bl _) (fun _ z => nomatch z)
theorem semOrV {fa fb : Ev} {Q : VK} (h : SemE K W (evOr fa fb) σ H Q) : tOrV (SemE K W fa) (SemE K W fb) σ H Q := by
  obtain ⟨al, own, ρ, p, h⟩ := h
  refine ⟨al, own, ρ, p, ?_⟩
  simp only [evOr] at h
  cases e : fa ρ with
  | stuck => simp only [e] at h
  | exc c ρ' => simp only [e] at h ⊢; exact h
  | ok r ρ' =>
    simp only [e] at h ⊢
    cases q : boolR r with
    | none => simp only [q] at h
    | some k =>
      have er := boolR_eq q
      subst er
      intro v H' own' as p' s' r' z'
      cases r'
      refine ⟨k, rfl, ?_⟩
      cases k with
      | false => rw [if_neg Bool.false_ne_true]; simp only [boolR] at h; exact semE_after p' s' h
      | true => rw [if_pos rfl]; simp only [boolR] at h; exact h _ H' own' [] p' s' (.bl _) (fun _ z => nomatch z)
theorem semNotV {fa : Ev} {Q : VK} (h : SemE K W (evNot fa) σ H Q) : tNotV (SemE K W fa) σ H Q := by
  obtain ⟨al, own, ρ, p, h⟩ := h
  refine ⟨al, own, ρ, p, ?_⟩
  simp only [evNot] at h
  cases e : fa ρ with
  | stuck => simp only [e] at h
  | exc c ρ' => simp only [e] at h ⊢; exact h
  | ok r ρ' =>
    simp only [e] at h ⊢
    cases q : boolR r with
    | none => simp only [q] at h
    | some k =>
      have er := boolR_eq q
      subst er
      intro v H' own' as p' s' r' z'
      cases r'
      simp only [boolR] at h
      exact ⟨k, rfl, h _ H' own' [] p' s' (.bl _) (fun _ z => nomatch z)⟩
variable {fa fb : Ev}
theorem pe_b1 {op : _} (ha : PE X a (SemE X.K W fa)) : PE X (.BoolOp op [a] pos) (SemE X.K W fa) := pe_one ha
theorem pe_a (ha : PE X a (SemE X.K W fa)) (hb : PE X (.BoolOp .And (b :: rest) pos) (SemE X.K W fb)) : PE X (.BoolOp .And (a :: b :: rest) pos) (SemE X.K W (evAnd fa fb)) := PE.imp (pe_and ha hb) fun _ _ _ h => semAndV h
theorem pe_o (ha : PE X a (SemE X.K W fa)) (hb : PE X (.BoolOp .Or (b :: rest) pos) (SemE X.K W fb)) : PE X (.BoolOp .Or (a :: b :: rest) pos) (SemE X.K W (evOr fa fb)) := PE.imp (pe_or ha hb) fun _ _ _ h => semOrV h
theorem pe_n (ha : PE X a (SemE X.K W fa)) : PE X (.UnaryOp .Not a pos) (SemE X.K W (evNot fa)) := PE.imp (pe_not ha) fun _ _ _ h => semNotV h
def evIf (t : Tv) (a b : Ev) : Ev := fun ρ => match t ρ with
  | .ok true ρ' => a ρ'
  | .ok false ρ' => b ρ'
  | .exc c ρ' => .exc c ρ'
  | .stuck => .stuck
theorem semIf {t : Tv} {Q : VK} (h : SemE K W (evIf t fa fb) σ H Q) : tIf (SemT K W t) (SemE K W fa) (SemE K W fb) σ H Q := by
  obtain ⟨al, own, ρ, p, h⟩ := h
  refine ⟨al, own, ρ, p, ?_⟩
  simp only [evIf] at h
  cases e : t ρ with
  | stuck => simp only [e] at h
  | exc c ρ' => simp only [e] at h ⊢; exact h
  | ok k ρ' =>
    cases k with
    | true => simp only [e] at h ⊢; intro H' own' p' s'; rw [if_pos trivial]; exact semE_after p' s' h
    | false => simp only [e] at h ⊢; intro H' own' p' s'; rw [if_neg Bool.false_ne_true]; exact semE_after p' s' h
theorem pe_if {t : Tv} {c : Expr} (hc : PT X c (SemT X.K W t)) (ha : PE X a (SemE X.K W fa)) (hb : PE X b (SemE X.K W fb)) : PE X (.IfExp c a b pos) (SemE X.K W (evIf t fa fb)) := PE.imp (pe_ifExp hc ha hb) fun _ _ _ h => semIf h
end
end Ev
set_option Elab.async false
set_option linter.all false
set_option autoImplicit false
set_option maxRecDepth 100000
/-! Ev4: plain operations: numbers, texts, lists, tuples; built-ins. -/
namespace Ev
open PySem PySem.Spec L2
open PyProof.Rows hiding St
noncomputable section
section
variable {K : PySem.W.Frag} {W : WX} {al : Addr → Prop} {own own' : Own} {ρ ρ' : Env} {σ : St} {H H' : Hp} {X : Cx} {pos : Pos}
theorem line_eq : (sizeLine : Nat) = lineN := by rw [sizeLine_eq, lineN_eq]
/-- a result that is a plain value -/
theorem PmQ.val {Z : Addr → Prop} {Q : VK} {d : PyData} {v : V} (q : PmQ K Z H Q (.sh d)) (r : Rp K H v d []) : Q v H := q v H [] .refl r fun _ z => nomatch z
/-- one of the items -/
theorem PmQ.part {Z : Addr → Prop} {Q : VK} {d : PyData} {v : V} {as : List Addr} (q : PmQ K Z H Q (.sh d)) (r : Rp K H v d as) (z : ∀ b ∈ as, Z b) : Q v H := q v H as .refl r fun b hb => .inl (z b hb)
/-- a new list -/
theorem PmQ.lst {Z : Addr → Prop} {Q : VK} {ds : List PyData} {vs : List V} {as : List Addr} (q : PmQ K Z H Q (.ow (.list ds))) (r : RpA K H vs ds as) (z : ∀ b ∈ as, Z b) {p : Addr} (hp : H p = none) : Q (.ref p) (upd H p (.lst vs)) :=
  q _ _ p (Grow.upd hp) hp ⟨rfl, .inl ⟨vs, ds, as, rfl, upd_same, (Grow.upd hp).rpA r, fun b hb => ⟨z b hb, RpA.there _ _ _ r b hb⟩⟩⟩
/-- a new tuple -/
theorem PmQ.tup {Z : Addr → Prop} {Q : VK} {ds : List PyData} {vs : List V} {as : List Addr} (q : PmQ K Z H Q (.sh (.tuple ds))) (r : RpA K H vs ds as) (z : ∀ b ∈ as, Z b) {p : Addr} (hp : H p = none) : Q (.ref p) (upd H p (.tup vs)) :=
  q _ _ as (Grow.upd hp) (.tup (.inl (.inl upd_same)) ((Grow.upd hp).rpA r)) fun b hb => .inl (z b hb)
/-! ### numbers -/
def fInt (g : Int → Int → Int) : PyData → PyData → Option Res
  | .int i, .int j => some (.sh (.int (g i j)))
  | _, _ => none
theorem ok_int0 {g : Int → Int → Int} : Ok2 K (rI0 fun i j => .int (g i j)) (fInt g) := by
  intro Z H x y d e res Q hx hy h q
  cases d <;> first | (cases h; done) | skip
  cases e <;> first | (cases h; done) | skip
  rename_i i j
  cases h
  exact ⟨i, j, hx.int, hy.int, q.val (.int _)⟩
def fIntC (C : Int → Int → Bool) (g : Int → Int → Int) : PyData → PyData → Option Res
  | .int i, .int j => if C i j = true then some (.sh (.int (g i j))) else none
  | _, _ => none
theorem ok_intC {P : Int → Int → Prop} {C : Int → Int → Bool} {g : Int → Int → Int} (hC : ∀ i j, C i j = true → P i j) : Ok2 K (rI P fun i j => .int (g i j)) (fIntC C g) := by
  intro Z H x y d e res Q hx hy h q
  cases d <;> first | (cases h; done) | skip
  cases e <;> first | (cases h; done) | skip
  rename_i i j
  simp only [fIntC] at h
  split at h
  · rename_i c
    cases h
    exact ⟨i, j, hx.int, hy.int, hC i j c, q.val (.int _)⟩
  · cases h
/-- products: one factor below 2^64, or together not too long -/
def mulB (i j : Int) : Bool := decide (i.natAbs < n64) || (decide (j.natAbs < n64) || decide (i.natAbs.log2 + j.natAbs.log2 < bigN))
theorem bits64 {i : Int} (h : i.natAbs < 2 ^ 64) : Builtin.Int.intBits i ≤ 64 := by
  unfold Builtin.Int.intBits
  split
  · omega
  · rename_i hz
    have h0 : i.natAbs ≠ 0 := by
      intro e
      apply hz
      simp [Int.natAbs_eq_zero.mp e]
    have := (Nat.log2_lt h0).mpr h
    omega
theorem mulB_ok {i j : Int} (h : mulB i j = true) : IntMulOk i j := by
  unfold mulB at h
  rw [n64_eq, bigN_eq] at h
  simp only [Bool.or_eq_true, decide_eq_true_eq] at h
  rcases h with h | h | h
  · exact .of_left (bits64 h)
  · exact .of_right (bits64 h)
  · have b : ∀ x : Int, Builtin.Int.intBits x ≤ x.natAbs.log2 + 1 := fun x => by
      unfold Builtin.Int.intBits
      split <;> omega
    have h1 := b i
    have h2 := b j
    have e : bitsLine = 134217728 := by decide
    unfold IntMulOk
    intro z
    rw [Bool.and_eq_true] at z
    have z2 := z.2
    unfold Builtin.Int.intTooBig at z2
    have z3 := of_decide_eq_true z2
    rw [e] at z3
    omega
theorem op_mulX : OpR X (binaryOp .Mult) (rI IntMulOk fun i j => .int (i * j)) := opI fun _ _ _ _ _ _ _ hc q => mul_int q hc
def divB (_ j : Int) : Bool := decide (0 < j) && decide (j.natAbs.log2 < 9000)
theorem divB_ok {i j : Int} (h : divB i j = true) : CDivW i j := by
  unfold divB at h
  simp only [Bool.and_eq_true, decide_eq_true_eq] at h
  exact h
def modB (_ j : Int) : Bool := decide (0 < j)
def powB (i j : Int) : Bool := decide (0 ≤ j) && (cdec (j ≤ 1000000) && decide (i.natAbs < n64))
theorem powB_ok {i j : Int} (h : powB i j = true) : CPow i j := by
  unfold powB at h
  rw [n64_eq] at h
  simp only [Bool.and_eq_true, decide_eq_true_eq] at h
  exact ⟨h.1, of_cdec h.2.1, h.2.2⟩
abbrev fSub := fInt fun i j => i - j
abbrev fMul := fIntC mulB fun i j => i * j
abbrev fDiv := fIntC divB fun i j => i / j
abbrev fMod := fIntC modB fun i j => i % j
abbrev fPow := fIntC powB fun i j => i ^ j.toNat
variable {a b : Expr} {oa ob : Opd}
theorem pe_sub' (ha : PE X a (SemO X.K W oa)) (hb : PE X b (SemO X.K W ob)) : PE X (.BinOp a .Sub b pos) (SemE X.K W (evPm (pm2 fSub) [oa, ob])) := pe_bin op_sub ok_int0 ha hb
theorem pe_mul' (ha : PE X a (SemO X.K W oa)) (hb : PE X b (SemO X.K W ob)) : PE X (.BinOp a .Mult b pos) (SemE X.K W (evPm (pm2 fMul) [oa, ob])) := pe_bin op_mulX (ok_intC fun _ _ h => mulB_ok h) ha hb
theorem pe_div' (ha : PE X a (SemO X.K W oa)) (hb : PE X b (SemO X.K W ob)) : PE X (.BinOp a .FloorDiv b pos) (SemE X.K W (evPm (pm2 fDiv) [oa, ob])) := pe_bin op_fdivW (ok_intC fun _ _ h => divB_ok h) ha hb
theorem pe_mod' (ha : PE X a (SemO X.K W oa)) (hb : PE X b (SemO X.K W ob)) : PE X (.BinOp a .Mod b pos) (SemE X.K W (evPm (pm2 fMod) [oa, ob])) := pe_bin op_mod (ok_intC fun _ _ h => of_decide_eq_true h) ha hb
theorem pe_pow' (ha : PE X a (SemO X.K W oa)) (hb : PE X b (SemO X.K W ob)) : PE X (.BinOp a .Pow b pos) (SemE X.K W (evPm (pm2 fPow) [oa, ob])) := pe_bin op_pow (ok_intC fun _ _ h => powB_ok h) ha hb
/-! ### + of numbers, texts, lists, tuples -/
def fAdd : PyData → PyData → Option Res
  | .int i, .int j => some (.sh (.int (i + j)))
  | .str x, .str y => if x.length + y.length ≤ lineN then some (.sh (.str (x ++ y))) else none
  | .list xs, .list ys => if xs.length + ys.length ≤ lineN then some (.ow (.list (xs ++ ys))) else none
  | .tuple xs, .tuple ys => if xs.length + ys.length ≤ lineN then some (.sh (.tuple (xs ++ ys))) else none
  | _, _ => none
def rCatR (K : PySem.W.Frag) : R2 := fun x y H Q => ∃ l b xs zs, x = .ref l ∧ y = .ref b ∧ SqL K H l xs ∧ SqL K H b zs ∧ xs.length + zs.length ≤ sizeLine ∧ ∀ p, H p = none → Q (.ref p) (upd H p (.lst (xs ++ zs)))
theorem op_catR : OpR X (binaryOp .Add) (rCatR X.K) := by
  intro pins s σ H x y v u Q I rx ry h
  obtain ⟨l, b, xs, zs, rfl, rfl, hH, hB, hz, q⟩ := h
  cases rx
  cases ry
  obtain ⟨its, r, p1, _⟩ := I.list hH
  obtain ⟨its2, r2, p2, _⟩ := I.list hB
  have hl := r.length
  have hl2 := r2.length
  obtain ⟨⟨cls, dd, data, sl⟩, ho, hc, n, hd⟩ := id p1.isList
  obtain ⟨⟨cls2, dd2, data2, sl2⟩, ho2, hc2, n2, hd2⟩ := id p2.isList
  simp only at hc hd hc2 hd2
  subst hc hd hc2 hd2
  have ea : its.toArray ++ its2.toArray = (its ++ its2).toArray := by simp
  refine concat_meets ⟨_, ho, rfl⟩ ⟨_, ho2, rfl⟩ noFill_list_add seq_list_add PySem.F.slot_list_add PySem.F.entry_list_add (PySem.F.args_list_add_2 _ _) (list_addW l b its.toArray its2.toArray n n2 dd dd2 sl sl2 (by rw [List.size_toArray, List.size_toArray]; omega)) ⟨ho, ho2, ?_⟩
  rw [ea]
  exact ⟨.ref _, _, I.lnew (t' := s.toks) (r.append r2) (by rw [List.length_append]; omega), rfl, q _ I.fresh⟩
abbrev rAddX (K : PySem.W.Frag) : R2 := fun x y H Q => (rI0 fun i j => .int (i + j)) x y H Q ∨ (∃ i j, x = .str i ∧ y = .str j ∧ i.length + j.length ≤ sizeLine ∧ Q (.str (i ++ j)) H) ∨ rCatR K x y H Q ∨ rCatA K x y H Q
theorem RpA.nil_iff {vs : List V} {ds : List PyData} {as : List Addr} (h : RpA K H vs ds as) : vs = [] ↔ ds = [] := by cases h <;> simp
theorem ok_add : Ok2 K (rAddX K) fAdd := by
  intro Z H x y d e res Q hx hy h q
  cases d with
  | int i =>
    cases e <;> first | (cases h; done) | skip
    cases h
    exact .inl ⟨_, _, hx.int, hy.int, q.val (.int _)⟩
  | str i =>
    cases e <;> first | (cases h; done) | skip
    simp only [fAdd] at h
    split at h
    · cases h
      exact .inr (.inl ⟨_, _, hx.str, hy.str, by rw [line_eq]; assumption, q.val (.str _)⟩)
    · cases h
  | list ds =>
    cases e <;> first | (cases h; done) | skip
    simp only [fAdd] at h
    split at h
    · rename_i hl
      cases h
      obtain ⟨a, vs, as, rfl, h1, r1, z1⟩ := hx.list
      obtain ⟨b, ws, bs, rfl, h2, r2, z2⟩ := hy.list
      exact .inr (.inr (.inl ⟨a, b, vs, ws, rfl, rfl, h1, h2, by rw [line_eq, r1.length, r2.length]; exact hl, fun p hp => q.lst (r1.append r2) (fun b hb => (List.mem_append.mp hb).elim (z1 b) (z2 b)) hp⟩))
    · cases h
  | tuple ds =>
    cases e <;> first | (cases h; done) | skip
    simp only [fAdd] at h
    split at h
    · rename_i hl
      cases h
      obtain ⟨a, vs, as, rfl, h1, r1, z1⟩ := hx.tuple
      obtain ⟨b, ws, bs, rfl, h2, r2, z2⟩ := hy.tuple
      refine .inr (.inr (.inr ⟨a, b, vs, ws, rfl, rfl, h1, h2, by rw [line_eq, r1.length, r2.length]; exact hl, fun e => ?_, fun _ e => ?_, fun _ _ p hp => q.tup (r1.append r2) (fun b hb => (List.mem_append.mp hb).elim (z1 b) (z2 b)) hp⟩))
      · subst e
        cases r1
        exact q.part (.tup h2 r2) z2
      · subst e
        cases r2
        rw [List.append_nil] at q
        exact q.part (.tup h1 r1) z1
    · cases h
  | none => cases e <;> cases h
  | bool _ => cases e <;> cases h
  | dict _ => cases e <;> cases h
theorem op_addX : OpR X (binaryOp .Add) (rAddX X.K) := op_add.or (op_add_str.or (op_catR.or op_catA))
theorem pe_add' (ha : PE X a (SemO X.K W oa)) (hb : PE X b (SemO X.K W ob)) : PE X (.BinOp a .Add b pos) (SemE X.K W (evPm (pm2 fAdd) [oa, ob])) := pe_bin op_addX ok_add ha hb
/-! ### comparisons -/
mutual
theorem Rp.dp : ∀ (d : PyData) (v : V) (as : List Addr), Rp K H v d as → d.canLay0 = true → Dp K H v d
  | .none, _, _, h, _ => by cases h; exact .non
  | .bool _, _, _, h, _ => by cases h; exact .bl _
  | .int _, _, _, h, _ => by cases h; exact .int _
  | .str _, _, _, h, _ => by cases h; exact .str _
  | .list ds, _, _, h, c => by cases h with
    | lst h1 h2 => exact .lst (.inl h1) (RpA.dp ds _ _ h2 (by simpa [PyData.canLay0] using c))
    | lsk h1 h2 => exact .lst (.inr h1) (RpA.dp ds _ _ h2 (by simpa [PyData.canLay0] using c))
  | .tuple ds, _, _, h, c => by cases h with | tup h1 h2 => exact .tup h1 (RpA.dp ds _ _ h2 (by simpa [PyData.canLay0] using c))
  | .dict _, _, _, _, c => by simp [PyData.canLay0] at c
theorem RpA.dp : ∀ (ds : List PyData) (vs : List V) (as : List Addr), RpA K H vs ds as → PyData.canLayAll0 ds = true → DpAll K H vs ds
  | [], _, _, h, _ => by cases h; exact .nil
  | d :: ds, _, _, h, c => by
    cases h with
    | cons h1 h2 =>
      simp only [PyData.canLayAll0, Bool.and_eq_true] at c
      exact .cons (Rp.dp d _ _ h1 c.1) (RpA.dp ds _ _ h2 c.2)
end
def shp (d : PyData) : Bool := SeqAt.shaped d
theorem Vw.dp {Z : Addr → Prop} {v : V} {d : PyData} (h : Vw K H Z v d) (s : shp d = true) : Dp K H v d := by
  obtain ⟨as, r⟩ := h.rp
  exact Rp.dp d v as r (SeqAt.canLay_of_shaped s)
def fEq (d e : PyData) : Option Res := if (shp d && shp e) = true then some (.sh (.bool (PyData.eqv d e))) else none
def fNe (d e : PyData) : Option Res := if (shp d && shp e) = true then some (.sh (.bool (!PyData.eqv d e))) else none
theorem ok_eq : Ok2 K (rEqD K) fEq := by
  intro Z H x y d e res Q hx hy h q
  simp only [fEq] at h
  split at h
  · rename_i c
    cases h
    obtain ⟨c1, c2⟩ := Bool.and_eq_true_iff.mp c
    exact ⟨d, e, hx.dp c1, hy.dp c2, c1, c2, q.val (.bl _)⟩
  · cases h
theorem ok_ne : Ok2 K (rNeD K) fNe := by
  intro Z H x y d e res Q hx hy h q
  simp only [fNe] at h
  split at h
  · rename_i c
    cases h
    obtain ⟨c1, c2⟩ := Bool.and_eq_true_iff.mp c
    exact ⟨d, e, hx.dp c1, hy.dp c2, c1, c2, q.val (.bl _)⟩
  · cases h
theorem fEq_bool (d e : PyData) (res : Res) (h : fEq d e = some res) : ∃ k, res = .sh (.bool k) := by
  simp only [fEq] at h
  split at h
  · cases h; exact ⟨_, rfl⟩
  · cases h
theorem fNe_bool (d e : PyData) (res : Res) (h : fNe d e = some res) : ∃ k, res = .sh (.bool k) := by
  simp only [fNe] at h
  split at h
  · cases h; exact ⟨_, rfl⟩
  · cases h
def fCmp (g : Int → Int → Bool) : PyData → PyData → Option Res
  | .int i, .int j => some (.sh (.bool (g i j)))
  | _, _ => none
theorem ok_cmp {g : Int → Int → Bool} : Ok2 K (rI0 fun i j => .bl (g i j)) (fCmp g) := by
  intro Z H x y d e res Q hx hy h q
  cases d <;> first | (cases h; done) | skip
  cases e <;> first | (cases h; done) | skip
  rename_i i j
  cases h
  exact ⟨i, j, hx.int, hy.int, q.val (.bl _)⟩
theorem fCmp_bool {g : Int → Int → Bool} (d e : PyData) (res : Res) (h : fCmp g d e = some res) : ∃ k, res = .sh (.bool k) := by
  cases d <;> first | (cases h; done) | skip
  cases e <;> first | (cases h; done) | skip
  cases h
  exact ⟨_, rfl⟩
abbrev fLt := fCmp fun i j => decide (i < j)
abbrev fLe := fCmp fun i j => decide (i ≤ j)
abbrev fGt := fCmp fun i j => decide (j < i)
abbrev fGe := fCmp fun i j => decide (j ≤ i)
def isNoneD : PyData → Bool
  | .none => true
  | _ => false
def fIs : PyData → PyData → Option Res
  | d, .none => some (.sh (.bool (isNoneD d)))
  | _, _ => none
def fIsN : PyData → PyData → Option Res
  | d, .none => some (.sh (.bool (!isNoneD d)))
  | _, _ => none
theorem Rp.isNone {v : V} {d : PyData} {as : List Addr} (h : Rp K H v d as) : decide (v = V.non) = isNoneD d := by cases h <;> simp [isNoneD]
theorem ok_is : Ok2 K (fun x y H Q => y = .non ∧ Q (.bl (decide (x = .non))) H) fIs := by
  intro Z H x y d e res Q hx hy h q
  cases e <;> first | (cases d <;> cases h; done) | skip
  obtain ⟨as, r⟩ := hx.rp
  have h' : some (Res.sh (.bool (isNoneD d))) = some res := by cases d <;> exact h
  cases h'
  exact ⟨hy.non, by rw [r.isNone]; exact q.val (.bl _)⟩
theorem ok_isN : Ok2 K (fun x y H Q => y = .non ∧ Q (.bl (!decide (x = .non))) H) fIsN := by
  intro Z H x y d e res Q hx hy h q
  cases e <;> first | (cases d <;> cases h; done) | skip
  obtain ⟨as, r⟩ := hx.rp
  have h' : some (Res.sh (.bool (!isNoneD d))) = some res := by cases d <;> exact h
  cases h'
  exact ⟨hy.non, by rw [r.isNone]; exact q.val (.bl _)⟩
theorem fIs_bool (d e : PyData) (res : Res) (h : fIs d e = some res) : ∃ k, res = .sh (.bool k) := by
  cases e <;> first | (cases d <;> cases h; done) | skip
  exact ⟨_, by have h' : some (Res.sh (.bool (isNoneD d))) = some res := by (cases d <;> exact h)
               exact (Option.some.inj h').symm⟩
theorem fIsN_bool (d e : PyData) (res : Res) (h : fIsN d e = some res) : ∃ k, res = .sh (.bool k) := by
  cases e <;> first | (cases d <;> cases h; done) | skip
  exact ⟨_, by have h' : some (Res.sh (.bool (!isNoneD d))) = some res := by (cases d <;> exact h)
               exact (Option.some.inj h').symm⟩
end
end
end Ev
set_option Elab.async false
set_option linter.all false
set_option autoImplicit false
set_option maxRecDepth 100000
/-! Ev5: statements. -/
namespace Ev
open PySem PySem.Spec L2
open PyProof.Rows hiding St
noncomputable section
inductive OutS where
  | next (ρ : Env) | ret (r : Res) (ρ : Env) | brk (ρ : Env) | cont (ρ : Env) | exc (c : Str) (ρ : Env) | stuck
abbrev EvS := Env → OutS
def NxS (K : PySem.W.Frag) (al : Addr → Prop) (own : Own) (ρ : Env) (H : Hp) (N : St → Hp → Prop) (ρ' : Env) : Prop :=
  ∀ σ' H' own', Pre K al own' ρ' σ' H' → Stp own ρ H own' ρ' H' → N σ' H'
def RtS (K : PySem.W.Frag) (al : Addr → Prop) (own : Own) (ρ : Env) (H : Hp) (Q : VK) : Res → Env → Prop
  | .sh d, ρ' => ∀ v σ' H' own' as, Pre K al own' ρ' σ' H' → Stp own ρ H own' ρ' H' → Rp K H' v d as → (∀ b ∈ as, Zf al own' b) → Q v H'
  | .ow d, ρ' => ∀ v σ' H' own' a, Pre K (fun b => al b ∧ b ≠ a) own' ρ' σ' H' → Stp own ρ H own' ρ' H' → OwV K H' (Zf (fun b => al b ∧ b ≠ a) own') v d a → al a → Free own' a → (H a = none ∨ Wr own ρ a) → Q v H'
def ExS (K : PySem.W.Frag) (W : WX) (al : Addr → Prop) (own : Own) (ρ : Env) (H : Hp) (c : Str) (ρ' : Env) : Prop :=
  ∀ σ' H' own', Pre K al own' ρ' σ' H' → Stp own ρ H own' ρ' H' → W (.ref (He.ga K c)) none σ' H'
def OkS (K : PySem.W.Frag) (W : WX) (al : Addr → Prop) (own : Own) (ρ : Env) (H : Hp) (D : Ends) : OutS → Prop
  | .next ρ' => NxS K al own ρ H D.nx ρ'
  | .brk ρ' => NxS K al own ρ H D.bk ρ'
  | .cont ρ' => NxS K al own ρ H D.ct ρ'
  | .ret r ρ' => RtS K al own ρ H D.rt r ρ'
  | .exc c ρ' => ExS K W al own ρ H c ρ'
  | .stuck => False
def SemS (K : PySem.W.Frag) (W : WX) (f : EvS) : TS := fun D σ H => ∃ al own ρ, Pre K al own ρ σ H ∧ OkS K W al own ρ H D (f ρ)
section
variable {K : PySem.W.Frag} {W : WX} {al : Addr → Prop} {own own' own1 : Own} {ρ ρ' ρ1 : Env} {σ σ1 : St} {H H' H1 : Hp} {X : Cx} {pos : Pos} {D : Ends}
theorem NxS.after {N : St → Hp → Prop} (s : Stp own ρ H own1 ρ1 H1) (h : NxS K al own ρ H N ρ') : NxS K al own1 ρ1 H1 N ρ' := fun σ' H' own' p s' => h σ' H' own' p (s.trans s')
theorem RtS.after {Q : VK} {r : Res} (s : Stp own ρ H own1 ρ1 H1) (h : RtS K al own ρ H Q r ρ') : RtS K al own1 ρ1 H1 Q r ρ' := by
  cases r with
  | sh d => exact fun v σ' H' own' as p s' => h v σ' H' own' as p (s.trans s')
  | ow d => exact fun v σ' H' own' a p s' o ha hf hw => h v σ' H' own' a p (s.trans s') o ha hf (s.src hw)
theorem ExS.after {c : Str} (s : Stp own ρ H own1 ρ1 H1) (h : ExS K W al own ρ H c ρ') : ExS K W al own1 ρ1 H1 c ρ' := fun σ' H' own' p s' => h σ' H' own' p (s.trans s')
theorem OkS.after {o : OutS} (s : Stp own ρ H own1 ρ1 H1) (h : OkS K W al own ρ H D o) : OkS K W al own1 ρ1 H1 D o := by
  cases o with
  | next r => exact NxS.after s h
  | brk r => exact NxS.after s h
  | cont r => exact NxS.after s h
  | ret r r' => exact RtS.after s h
  | exc c r => exact ExS.after s h
  | stuck => exact h
theorem ExS.toE {c : Str} (h : ExS K W al own ρ H c ρ') : ExE K W al own ρ σ H c ρ' := fun H' own' p s => h σ H' own' p s
/-! ### blocks -/
def sNil : EvS := fun ρ => .next ρ
def sSeq (a b : EvS) : EvS := fun ρ => match a ρ with
  | .next ρ' => b ρ'
  | o => o
theorem semSeq {f g : EvS} (h : SemS K W (sSeq f g) D σ H) : tSeq (SemS K W f) (SemS K W g) D σ H := by
  obtain ⟨al, own, ρ, p, h⟩ := h
  refine ⟨al, own, ρ, p, ?_⟩
  simp only [sSeq] at h
  cases e : f ρ with
  | next ρ' => simp only [e] at h; exact fun σ' H' own' p' s' => ⟨al, own', ρ', p', h.after s'⟩
  | _ => simp only [e] at h; exact h
theorem s_nil : PSs X [] (SemS X.K W sNil) := PSs.imp pss_nil fun D σ H ⟨al, own, ρ, p, h⟩ => h σ H own p .refl
theorem s_cons {st : Stmt} {rest : List Stmt} {f g : EvS} (h1 : PS X st (SemS X.K W f)) (h2 : PSs X rest (SemS X.K W g)) : PSs X (st :: rest) (SemS X.K W (sSeq f g)) := PSs.imp (pss_cons h1 h2) fun _ _ _ h => semSeq h
theorem s_one {st : Stmt} {f : EvS} (h1 : PS X st (SemS X.K W f)) : PSs X [st] (SemS X.K W f) := pss_one h1
/-! ### small statements -/
theorem s_pass : PS X (.Pass pos) (SemS X.K W sNil) := PS.imp ps_pass fun D σ H ⟨al, own, ρ, p, h⟩ => h σ H own p .refl
def sBrk : EvS := fun ρ => .brk ρ
def sCont : EvS := fun ρ => .cont ρ
theorem s_break : PS X (.Break pos) (SemS X.K W sBrk) := PS.imp ps_break fun D σ H ⟨al, own, ρ, p, h⟩ => h σ H own p .refl
theorem s_continue : PS X (.Continue pos) (SemS X.K W sCont) := PS.imp ps_continue fun D σ H ⟨al, own, ρ, p, h⟩ => h σ H own p .refl
def sRet (f : Ev) : EvS := fun ρ => match f ρ with
  | .ok r ρ' => .ret r ρ'
  | .exc c ρ' => .exc c ρ'
  | .stuck => .stuck
theorem RtS.toE {Q : VK} {r : Res} (h : RtS K al own ρ H Q r ρ') : OkE K al own ρ σ H Q r ρ' := by
  cases r with
  | sh d => exact fun v H' own' as p s => h v σ H' own' as p s
  | ow d => exact fun v H' own' a p s => h v σ H' own' a p s
theorem s_ret {e : Expr} {f : Ev} (he : PE X e (SemE X.K W f)) : PS X (.Return (some e) pos) (SemS X.K W (sRet f)) := PS.imp (ps_ret he) fun D σ H ⟨al, own, ρ, p, h⟩ => by
  refine ⟨al, own, ρ, p, ?_⟩
  simp only [sRet] at h
  cases e : f ρ with
  | stuck => simp only [e] at h; exact h
  | exc c ρ' => simp only [e] at h ⊢; exact ExS.toE h
  | ok r ρ' => simp only [e] at h ⊢; exact RtS.toE h
/-- return name: what the name owns is handed on -/
def evMv (i : Nat) : Ev := fun ρ => match ρ[i]? with
  | some (some (.sh d)) => .ok (.sh d) ρ
  | some (some (.ow d)) => .ok (.ow d) (ρ.set i none)
  | _ => .stuck
theorem semMv {i : Nat} {Q : VK} (h : SemE K W (evMv i) σ H Q) : tVar i σ H Q := by
  obtain ⟨al, own, ρ, p, h⟩ := h
  simp only [evMv] at h
  cases e : ρ[i]? with
  | none => simp only [e] at h
  | some s =>
    cases s with
    | none => simp only [e] at h
    | some s =>
      obtain ⟨v, hv, ok⟩ := p.sl i s e
      refine ⟨v, hv, ?_⟩
      cases s with
      | sh d =>
        simp only [e] at h
        obtain ⟨as, r, z⟩ := ok
        exact h v H own as p .refl r z
      | ow d =>
        simp only [e] at h
        obtain ⟨a, ea, o, ha⟩ := ok
        have fa : Free (own.drop i) a := fun j q => (Own.drop_some q).2 (p.inj _ _ a (Own.drop_some q).1 ea)
        have nf : ∀ {b : Addr}, Free own b → b ≠ a := fun {b} f e1 => f i (e1 ▸ ea)
        have lift : ∀ {j : Nat} {s : Sl} {v : V}, SlOk K H al own j s v → j ≠ i → SlOk K H (fun b => al b ∧ b ≠ a) (own.drop i) j s v := fun {j s v} h hj => by
          have h2 := h.drop (i := i) hj
          have zz : ∀ b, Zf al (own.drop i) b → Free own b → Zf (fun b => al b ∧ b ≠ a) (own.drop i) b := fun b z f => ⟨⟨z.1, nf f⟩, z.2⟩
          cases s with
          | sh d => obtain ⟨as, r, z⟩ := h; exact ⟨as, r, fun b hb => zz b (z b hb).drop (z b hb).2⟩
          | ow d => obtain ⟨x, q, r, z⟩ := h; exact ⟨x, by rw [Own.drop_ne hj]; exact q, r.mono fun b hb => zz b hb.drop hb.2, z, fun e1 => hj (p.inj _ _ a (e1 ▸ q) ea)⟩
          | io d => obtain ⟨x, q, r⟩ := h; exact ⟨x, by rw [Own.drop_ne hj]; exact q, r.mono fun b hb => zz b hb.drop hb.2⟩
          | lk d => obtain ⟨x, q, r⟩ := h; exact ⟨x, by rw [Own.drop_ne hj]; exact q, r.mono fun b hb => zz b hb.drop hb.2⟩
          | ex x c => exact h
        have pr : Pre K (fun b => al b ∧ b ≠ a) (own.drop i) (ρ.set i none) σ H := ⟨fun b q => ⟨p.fr b q, fun e1 => by
            obtain ⟨o, q2, _⟩ := p.mu i a ea
            rw [e1, q2] at q; cases q⟩, fun j k b e1 e2 => p.inj j k b (Own.drop_some e1).1 (Own.drop_some e2).1, fun j b e1 => p.mu j b (Own.drop_some e1).1, by rw [List.length_set]; exact p.len, fun j s' e1 => by
          rcases getElem?_set_cases e1 with ⟨rfl, e2, _⟩ | ⟨hj, e2⟩
          · cases e2
          · obtain ⟨v', h1, h2⟩ := p.sl j s' e2; exact ⟨v', h1, lift h2 hj⟩⟩
        have st : Stp own ρ H (own.drop i) (ρ.set i none) H := ⟨fun _ _ q _ => q, fun _ q => q, fun j b q => .inl ⟨j, (Own.drop_some q).1⟩, fun b ⟨j, s', q1, q2, q3⟩ => by
            rcases getElem?_set_cases q2 with ⟨_, e2, _⟩ | ⟨hj, e2⟩
            · cases e2
            · exact .inl ⟨j, s', (Own.drop_some q1).1, e2, q3⟩,
          fun j d' q => by
            have hj : j ≠ i := fun z => by subst z; rw [e] at q; cases q
            exact ⟨by rw [List.getElem?_set_ne (Ne.symm hj)]; exact q, Own.drop_ne hj⟩,
          fun j d' q => by
            have hj : j ≠ i := fun z => by subst z; rw [e] at q; cases q
            exact ⟨⟨d', by rw [List.getElem?_set_ne (Ne.symm hj)]; exact q⟩, Own.drop_ne hj⟩, List.length_set ..⟩
        exact h v H _ a pr st (o.mono fun b hb => ⟨⟨hb.1, nf hb.2⟩, hb.2.drop⟩) ha fa (.inr ⟨i, _, ea, e, rfl⟩)
      | io d => simp only [e] at h
      | lk d => simp only [e] at h
      | ex a c => simp only [e] at h
theorem pe_mv {i : Nat} {x : Str} (h : PE X (.Name x pos) (tVar i)) : PE X (.Name x pos) (SemE X.K W (evMv i)) := PE.imp h fun σ H Q h => semMv h
def sIf (t : Tv) (a b : EvS) : EvS := fun ρ => match t ρ with
  | .ok true ρ' => a ρ'
  | .ok false ρ' => b ρ'
  | .exc c ρ' => .exc c ρ'
  | .stuck => .stuck
theorem s_if {c : Expr} {a b : List Stmt} {t : Tv} {f g : EvS} (hc : PT X c (SemT X.K W t)) (ha : PSs X a (SemS X.K W f)) (hb : PSs X b (SemS X.K W g)) : PS X (.If c a b pos) (SemS X.K W (sIf t f g)) := PS.imp (ps_if hc ha hb) fun D σ H ⟨al, own, ρ, p, h⟩ => by
  refine ⟨al, own, ρ, p, ?_⟩
  simp only [sIf] at h
  cases e : t ρ with
  | stuck => simp only [e] at h; exact h
  | exc c ρ' => simp only [e] at h ⊢; exact ExS.toE h
  | ok k ρ' =>
    cases k with
    | true => simp only [e] at h ⊢; intro H' own' p' s'; rw [if_pos trivial]; exact ⟨al, own', ρ', p', h.after s'⟩
    | false => simp only [e] at h ⊢; intro H' own' p' s'; rw [if_neg Bool.false_ne_true]; exact ⟨al, own', ρ', p', h.after s'⟩
/-- an expression whose value is dropped -/
def sEx (f : Ev) : EvS := fun ρ => match f ρ with
  | .ok _ ρ' => .next ρ'
  | .exc c ρ' => .exc c ρ'
  | .stuck => .stuck
theorem s_expr {e : Expr} {f : Ev} (he : PE X e (SemE X.K W f)) (hs : swapsWith e none pos.line X.env = pure false := by rfl) : PS X (.Expr e pos) (SemS X.K W (sEx f)) := PS.imp (ps_expr he hs) fun D σ H ⟨al, own, ρ, p, h⟩ => by
  refine ⟨al, own, ρ, p, ?_⟩
  simp only [sEx] at h
  cases e : f ρ with
  | stuck => simp only [e] at h; exact h
  | exc c ρ' => simp only [e] at h ⊢; exact ExS.toE h
  | ok r ρ' => simp only [e] at h ⊢; exact OkE.share fun v H' own' as p' s' _ _ => h σ H' own' p' s'
/-! ### name = value -/
def Sl.free : Option Sl → Bool
  | some (.io _) => false
  | some (.lk _) => false
  | _ => true
def Res.sl : Res → Sl
  | .sh d => .sh d
  | .ow d => .ow d
/-- slot i gets r; a parameter that is the caller's, a list that is walked may not be stored over -/
def putR (i : Nat) (r : Res) (ρ : Env) : Option Env := match ρ[i]? with
  | some s => if Sl.free s = true then some (ρ.set i (some r.sl)) else none
  | none => none
def Own.put (own : Own) (i : Nat) (a : Addr) : Own := fun j => if j = i then some a else own j
theorem Own.put_same {i : Nat} {a : Addr} : own.put i a i = some a := if_pos rfl
theorem Own.put_ne {i j : Nat} {a : Addr} (h : j ≠ i) : own.put i a j = own j := if_neg h
theorem Stp.slot {i : Nat} {x : Option Sl} {s : Option Sl} (e : ρ[i]? = some s) (hf : Sl.free s = true) (hw : ∀ j a, own' j = some a → (∃ k, own k = some a) ∨ H a = none) (hr : ∀ j, j ≠ i → own' j = own j)
    (hx : ∀ y, x = some y → y.wr = true → ∀ a, own' i = some a → Wr own ρ a ∨ H a = none) : Stp own ρ H own' (ρ.set i x) H :=
  ⟨fun _ _ q _ => q, fun _ q => q, hw, fun b ⟨j, s', q1, q2, q3⟩ => by
      rcases getElem?_set_cases q2 with ⟨rfl, e2, _⟩ | ⟨hj, e2⟩
      · exact hx s' e2.symm q3 b q1
      · exact .inl ⟨j, s', by rw [← hr j hj]; exact q1, e2, q3⟩,
    fun j d q => by
      have hj : j ≠ i := fun z => by subst z; rw [e] at q; cases q; cases hf
      exact ⟨by rw [List.getElem?_set_ne (Ne.symm hj)]; exact q, hr j hj⟩,
    fun j d q => by
      have hj : j ≠ i := fun z => by subst z; rw [e] at q; cases q; cases hf
      exact ⟨⟨d, by rw [List.getElem?_set_ne (Ne.symm hj)]; exact q⟩, hr j hj⟩, List.length_set ..⟩
/-- a plain value is stored -/
theorem put_sh {i : Nat} {d : PyData} {v : V} {as : List Addr} (p : Pre K al own ρ σ H) (e : putR i (.sh d) ρ = some ρ') (r : Rp K H v d as) (z : ∀ b ∈ as, Zf al own b) :
    Pre K al (own.drop i) ρ' (σ.set i (some v)) H ∧ Stp own ρ H (own.drop i) ρ' H := by
  simp only [putR] at e
  cases q : ρ[i]? with
  | none => simp only [q] at e; cases e
  | some s =>
    simp only [q] at e
    split at e
    · rename_i hf
      cases e
      refine ⟨⟨p.fr, fun j k b e1 e2 => p.inj j k b (Own.drop_some e1).1 (Own.drop_some e2).1, fun j b e1 => p.mu j b (Own.drop_some e1).1, by rw [List.length_set, List.length_set]; exact p.len, fun j s' e1 => ?_⟩,
        Stp.slot q hf (fun j b q => .inl ⟨j, (Own.drop_some q).1⟩) (fun j hj => Own.drop_ne hj) fun y hy hw => by cases hy; cases hw⟩
      rcases getElem?_set_cases e1 with ⟨rfl, e2, hl⟩ | ⟨hj, e2⟩
      · cases e2
        exact ⟨v, by rw [List.getElem?_set_self (by rw [← p.len]; exact hl)], as, r, fun b hb => (z b hb).drop⟩
      · obtain ⟨v', h1, h2⟩ := p.sl j s' e2
        exact ⟨v', by rw [List.getElem?_set_ne (Ne.symm hj)]; exact h1, h2.drop hj⟩
    · cases e
/-- a value of its own is stored -/
theorem put_ow {i : Nat} {d : PyData} {v : V} {a : Addr} (p : Pre K (fun b => al b ∧ b ≠ a) own ρ σ H) (e : putR i (.ow d) ρ = some ρ') (o : OwV K H (Zf (fun b => al b ∧ b ≠ a) own) v d a) (ha : al a) (hf' : Free own a) :
    Pre K al (own.put i a) ρ' (σ.set i (some v)) H := by
  simp only [putR] at e
  cases q : ρ[i]? with
  | none => simp only [q] at e; cases e
  | some s =>
    simp only [q] at e
    split at e
    · rename_i hf
      cases e
      have zz : ∀ b, Zf (fun b => al b ∧ b ≠ a) own b → Zf al (own.put i a) b := fun b hb => ⟨hb.1.1, fun j e1 => by
        by_cases hj : j = i
        · rw [hj, Own.put_same] at e1; exact hb.1.2 (Option.some.inj e1).symm
        · rw [Own.put_ne hj] at e1; exact hb.2 j e1⟩
      refine ⟨fun b hb => (p.fr b hb).1, fun j k b e1 e2 => ?_, fun j b e1 => ?_, by rw [List.length_set, List.length_set]; exact p.len, fun j s' e1 => ?_⟩
      · by_cases hj : j = i
        · rw [hj, Own.put_same] at e1; cases e1
          by_cases hk : k = i
          · rw [hj, hk]
          · rw [Own.put_ne hk] at e2; exact absurd e2 (hf' k)
        · rw [Own.put_ne hj] at e1
          by_cases hk : k = i
          · rw [hk, Own.put_same] at e2; cases e2; exact absurd e1 (hf' j)
          · rw [Own.put_ne hk] at e2; exact p.inj j k b e1 e2
      · by_cases hj : j = i
        · rw [hj, Own.put_same] at e1; cases e1
          obtain ⟨_, ⟨vs, ds, as, _, h2, _, _⟩ | ⟨vs, ds, as, _, h2, _, _⟩⟩ := o
          · exact ⟨_, h2, trivial⟩
          · exact ⟨_, h2, trivial⟩
        · rw [Own.put_ne hj] at e1; exact p.mu j b e1
      · rcases getElem?_set_cases e1 with ⟨rfl, e2, hl⟩ | ⟨hj, e2⟩
        · cases e2
          exact ⟨v, by rw [List.getElem?_set_self (by rw [← p.len]; exact hl)], a, Own.put_same, o.mono zz, ha⟩
        · obtain ⟨v', h1, h2⟩ := p.sl j s' e2
          refine ⟨v', by rw [List.getElem?_set_ne (Ne.symm hj)]; exact h1, ?_⟩
          cases s' with
          | sh d => obtain ⟨as, r, z⟩ := h2; exact ⟨as, r, fun b hb => zz b (z b hb)⟩
          | ow d => obtain ⟨x, q1, r, z⟩ := h2; exact ⟨x, by rw [Own.put_ne hj]; exact q1, r.mono zz, z.1⟩
          | io d => obtain ⟨x, q1, r⟩ := h2; exact ⟨x, by rw [Own.put_ne hj]; exact q1, r.mono zz⟩
          | lk d => obtain ⟨x, q1, r⟩ := h2; exact ⟨x, by rw [Own.put_ne hj]; exact q1, r.mono zz⟩
          | ex x c => exact h2
    · cases e
theorem put_ow_stp {own0 : Own} {ρ0 : Env} {H0 : Hp} {i : Nat} {d : PyData} {a : Addr} (s : Stp own0 ρ0 H0 own ρ H) (e : putR i (.ow d) ρ = some ρ') (src : H0 a = none ∨ Wr own0 ρ0 a) : Stp own0 ρ0 H0 (own.put i a) ρ' H := by
  simp only [putR] at e
  cases q : ρ[i]? with
  | none => simp only [q] at e; cases e
  | some t =>
    simp only [q] at e
    split at e
    · rename_i hf
      cases e
      have ni : ∀ j x, ρ[j]? = some (some x) → Sl.free (some x) = false → j ≠ i := fun j x e1 e2 e3 => by
        subst e3; rw [q] at e1; cases e1; rw [hf] at e2; cases e2
      refine ⟨s.keep, s.dom, fun j b e1 => ?_, fun b ⟨j, x, e1, e2, e3⟩ => ?_, fun j x e1 => ?_, fun j x e1 => ?_, by rw [List.length_set]; exact s.ln⟩
      · by_cases hj : j = i
        · rw [hj, Own.put_same] at e1; cases e1
          exact src.elim .inr fun ⟨k, _, e2, _⟩ => .inl ⟨k, e2⟩
        · rw [Own.put_ne hj] at e1; exact s.nw j b e1
      · by_cases hj : j = i
        · rw [hj, Own.put_same] at e1; cases e1
          exact src.elim .inr .inl
        · rw [Own.put_ne hj] at e1
          rw [List.getElem?_set_ne (Ne.symm hj)] at e2
          exact s.fz b ⟨j, x, e1, e2, e3⟩
      · obtain ⟨q1, q2⟩ := s.lk j x e1
        have hj := ni j _ q1 rfl
        exact ⟨by rw [List.getElem?_set_ne (Ne.symm hj)]; exact q1, by rw [Own.put_ne hj]; exact q2⟩
      · obtain ⟨⟨y, q1⟩, q2⟩ := s.io j x e1
        have hj := ni j _ q1 rfl
        exact ⟨⟨y, by rw [List.getElem?_set_ne (Ne.symm hj)]; exact q1⟩, by rw [Own.put_ne hj]; exact q2⟩
    · cases e
def sAsg (i : Nat) (f : Ev) : EvS := fun ρ => match f ρ with
  | .ok r ρ' => (match putR i r ρ' with
    | some ρ2 => .next ρ2
    | none => .stuck)
  | .exc c ρ' => .exc c ρ'
  | .stuck => .stuck
theorem semAsg {i : Nat} {f : Ev} (h : SemS K W (sAsg i f) D σ H) : tAsg (SemE K W f) (gName i) D σ H := by
  obtain ⟨al, own, ρ, p, h⟩ := h
  refine ⟨al, own, ρ, p, ?_⟩
  simp only [sAsg] at h
  cases e : f ρ with
  | stuck => simp only [e] at h; exact h
  | exc c ρ' => simp only [e] at h ⊢; exact ExS.toE h
  | ok r ρ' =>
    simp only [e] at h ⊢
    cases q : putR i r ρ' with
    | none => simp only [q] at h; exact h.elim
    | some ρ2 =>
      simp only [q] at h
      cases r with
      | sh d =>
        intro v H' own' as p' s' r' z'
        obtain ⟨p2, s2⟩ := put_sh p' q r' z'
        exact h _ H' _ p2 (s'.trans s2)
      | ow d =>
        intro v H' own' a p' s' o ha hf hw
        exact h _ H' _ (put_ow p' q o ha hf) (put_ow_stp s' q hw)
theorem s_asg {i : Nat} {x : Str} {e : Expr} {f : Ev} {pos' : Pos} (hN : X.N.Nodup) (hi : X.N[i]? = some x) (hx : Loc X.env.scope x) (he : PE X e (SemE X.K W f)) (hs : swapsWith e (some (.Name x pos')) pos.line X.env = pure false := by rfl)
    (hf : X.fn x = true ∨ X.env.scope.names.lookup x = some .local := by first | exact .inl rfl | exact .inr rfl | assumption) : PS X (.Assign [.Name x pos'] e pos) (SemS X.K W (sAsg i f)) := PS.imp (ps_set hN hi hx he hs hf) fun _ _ _ h => semAsg h
end
end
end Ev
set_option Elab.async false
set_option linter.all false
set_option autoImplicit false
set_option maxRecDepth 100000
/-! Ev6: what a name holds is changed: append, pop, .. -/
namespace Ev
open PySem PySem.Spec L2
open PyProof.Rows hiding St
noncomputable section
section
variable {K : PySem.W.Frag} {W : WX} {al : Addr → Prop} {own own' own1 : Own} {ρ ρ' ρ1 : Env} {σ σ1 : St} {H H' H1 : Hp} {X : Cx} {pos : Pos} {D : Ends}
/-- the same mode with other data -/
def Sl.to : Sl → PyData → Sl
  | .sh _, d => .sh d
  | .ow _, d => .ow d
  | .io _, d => .io d
  | .lk _, d => .lk d
  | .ex a c, _ => .ex a c
theorem upd_rp {a : Addr} {o o' : HO} (ha : H a = some o) (hm : Mut (some o)) {v : V} {d : PyData} {as : List Addr} (r : Rp K H v d as) (n : ∀ b ∈ as, b ≠ a) : Rp K (upd H a o') v d as :=
  Rp.keep (W := fun b => b = a) (fun b x e w => by rw [upd_ne w]; exact e) (fun b e => ⟨o, by rw [e]; exact ha, hm⟩) d v as r n
theorem upd_rpA {a : Addr} {o o' : HO} (ha : H a = some o) (hm : Mut (some o)) {v : List V} {d : List PyData} {as : List Addr} (r : RpA K H v d as) (n : ∀ b ∈ as, b ≠ a) : RpA K (upd H a o') v d as :=
  RpA.keep (W := fun b => b = a) (fun b x e w => by rw [upd_ne w]; exact e) (fun b e => ⟨o, by rw [e]; exact ha, hm⟩) d v as r n
theorem upd_rpK {a : Addr} {o o' : HO} (ha : H a = some o) (hm : Mut (some o)) {v : List (Key × V)} {d : List (PyData × PyData)} {as : List Addr} (r : RpK K H v d as) (n : ∀ b ∈ as, b ≠ a) : RpK K (upd H a o') v d as :=
  RpK.keep (W := fun b => b = a) (fun b x e w => by rw [upd_ne w]; exact e) (fun b e => ⟨o, by rw [e]; exact ha, hm⟩) d v as r n
theorem OwV.upd_other {a x : Addr} {o o' : HO} (ha : H a = some o) (hm : Mut (some o)) {Z : Addr → Prop} {v : V} {d : PyData} (h : OwV K H Z v d x) (hx : x ≠ a) (hz : ∀ b, Z b → b ≠ a) : OwV K (upd H a o') Z v d x := by
  obtain ⟨e, ⟨vs, ds, as, h1, h2, h3, h4⟩ | ⟨vs, ds, as, h1, h2, h3, h4⟩⟩ := h
  · exact ⟨e, .inl ⟨vs, ds, as, h1, by rw [upd_ne hx]; exact h2, upd_rpA ha hm h3 fun b hb => hz b (h4 b hb), h4⟩⟩
  · exact ⟨e, .inr ⟨vs, ds, as, h1, by rw [upd_ne hx]; exact h2, upd_rpK ha hm h3 fun b hb => hz b (h4 b hb), h4⟩⟩
/-- slot i's own object is changed -/
theorem Pre.mut (p : Pre K al own ρ σ H) {i : Nat} {s : Sl} {a : Addr} {o o' : HO} {v : V} {d : PyData} (e : ρ[i]? = some (some s)) (hw : s.wr = true) (ei : own i = some a) (hv : σ[i]? = some (some v)) (ha : H a = some o) (hm : Mut (some o)) (hm' : Mut (some o'))
    (hs : s.wr = true → (∃ d', s = .ow d') → al a) (n : OwV K (upd H a o') (Zf al own) v d a) : Pre K al own (ρ.set i (some (s.to d))) σ (upd H a o') ∧ Stp own ρ H own (ρ.set i (some (s.to d))) (upd H a o') := by
  have zz : ∀ b, Zf al own b → b ≠ a := fun b z q => z.2 i (q ▸ ei)
  have hlt : i < ρ.length := by
    have := List.getElem?_eq_some_iff.mp e
    exact this.1
  have dm : ∀ b, upd H a o' b = none → H b = none := fun b q => by
    by_cases hb : b = a
    · rw [hb, upd_same] at q; cases q
    · rw [upd_ne hb] at q; exact q
  refine ⟨⟨fun b q => p.fr b (dm b q), p.inj, fun j b q => ?_, by rw [List.length_set]; exact p.len, fun j s' q => ?_⟩,
    ⟨fun b x q w => ?_, dm, fun j b q => .inl ⟨j, q⟩, fun b ⟨j, x, q1, q2, q3⟩ => ?_, fun j x q => ?_, fun j x q => ?_, List.length_set ..⟩⟩
  · by_cases hb : b = a
    · rw [hb, upd_same]; exact ⟨o', rfl, hm'⟩
    · rw [upd_ne hb]; exact p.mu j b q
  · rcases getElem?_set_cases q with ⟨rfl, e2, _⟩ | ⟨hj, e2⟩
    · cases e2
      refine ⟨v, hv, ?_⟩
      cases s with
      | sh d' => cases hw
      | ow d' => exact ⟨a, ei, n, hs rfl ⟨d', rfl⟩⟩
      | io d' => exact ⟨a, ei, n⟩
      | lk d' => cases hw
      | ex a c => cases hw
    · obtain ⟨v', h1, h2⟩ := p.sl j s' e2
      refine ⟨v', h1, ?_⟩
      have ne : ∀ {x}, own j = some x → x ≠ a := fun {x} q q2 => hj (p.inj j i a (q2 ▸ q) ei)
      cases s' with
      | sh d => obtain ⟨as, r, z⟩ := h2; exact ⟨as, upd_rp ha hm r fun b hb => zz b (z b hb), z⟩
      | ow d => obtain ⟨x, q1, r, z⟩ := h2; exact ⟨x, q1, r.upd_other ha hm (ne q1) zz, z⟩
      | io d => obtain ⟨x, q1, r⟩ := h2; exact ⟨x, q1, r.upd_other ha hm (ne q1) zz⟩
      | lk d => obtain ⟨x, q1, r⟩ := h2; exact ⟨x, q1, r.upd_other ha hm (ne q1) zz⟩
      | ex x c => exact h2
  · have hb : b ≠ a := fun q2 => w ⟨i, s, q2 ▸ ei, e, hw⟩
    rw [upd_ne hb]; exact q
  · rcases getElem?_set_cases q2 with ⟨rfl, e2, _⟩ | ⟨hj, e2⟩
    · exact .inl ⟨_, s, q1, e, hw⟩
    · exact .inl ⟨j, x, q1, e2, q3⟩
  · have hj : j ≠ i := fun z => by
      subst z; rw [e] at q; cases q; cases hw
    exact ⟨by rw [List.getElem?_set_ne (Ne.symm hj)]; exact q, rfl⟩
  · by_cases hj : j = i
    · subst hj
      rw [e] at q
      cases q
      exact ⟨⟨d, by rw [List.getElem?_set_self hlt]; rfl⟩, rfl⟩
    · exact ⟨⟨x, by rw [List.getElem?_set_ne (Ne.symm hj)]; exact q⟩, rfl⟩
/-- a mutator of lists, by values: m (items) (arguments) = (items, result) -/
def MuOk (K : PySem.W.Frag) (r : V → List V → Hp → VK → Prop) (m : List PyData → List PyData → Option (List PyData × PyData)) : Prop :=
  ∀ (Z : Addr → Prop) (H : Hp) (a : Addr) (vs xs : List V) (ds es ds' : List PyData) (as : List Addr) (y : PyData) (Q : VK), H a = some (.lst vs) → RpA K H vs ds as → (∀ b ∈ as, Z b) → (∃ cs, RpA K H xs es cs ∧ ∀ b ∈ cs, Z b) → m ds es = some (ds', y) →
    (∀ v vs' as' bs, RpA K H vs' ds' as' → (∀ b ∈ as', Z b) → Rp K H v y bs → (∀ b ∈ bs, Z b) → Q v (upd H a (.lst vs'))) → r (.ref a) xs H Q
def isL : PyData → Bool
  | .list _ => true
  | _ => false
def evMut (i : Nat) (fs : List Ev) (m : List PyData → List PyData → Option (List PyData × PyData)) : Ev := fun ρ => match ρ[i]? with
  | some (some s0) => if (s0.wr && isL s0.d) = true then (match evOs (fs.map .ex) ρ with
    | .ok as ρ1 => (match ρ1[i]?, looks ρ1 as with
      | some (some s), some es => if s.wr = true then (match s.d with
        | .list ds => (match m ds es with
          | some (ds', y) => .ok (.sh y) (ρ1.set i (some (s.to (.list ds'))))
          | none => .stuck)
        | _ => .stuck) else .stuck
      | _, _ => .stuck)
    | .exc c ρ1 => .exc c ρ1
    | .stuck => .stuck) else .stuck
  | _ => .stuck
theorem ArgsOk.free (p : Pre K al own ρ σ H) : ∀ {as : List Arg} {vs : List V} {es : List PyData}, (∀ a ∈ as, ∃ d, a = .sh d) → ArgsOk K H al own σ as vs → Ev.looks ρ as = some es → ∃ cs, RpA K H vs es cs ∧ ∀ b ∈ cs, Zf al own b
  | [], [], _, _, _, h => by simp [Ev.looks] at h; subst h; exact ⟨[], .nil, fun _ z => nomatch z⟩
  | [], _ :: _, _, _, h, _ => h.elim
  | _ :: _, [], _, _, h, _ => h.elim
  | a :: as, v :: vs, es, hs, ⟨h1, h2⟩, h => by
    obtain ⟨d, rfl⟩ := hs a (by simp)
    simp only [Ev.looks, look] at h
    cases q : Ev.looks ρ as with
    | none => simp [q] at h
    | some ds =>
      simp [q] at h
      subst h
      obtain ⟨bs, r, z⟩ := h1
      obtain ⟨cs, r2, z2⟩ := ArgsOk.free p (fun a ha => hs a (by simp [ha])) h2 q
      exact ⟨_, .cons r r2, fun b hb => (List.mem_append.mp hb).elim (z b) (z2 b)⟩
theorem evOs_sh : ∀ {fs : List Ev} {ρ ρ' : Env} {as : List Arg}, evOs (fs.map .ex) ρ = .ok as ρ' → ∀ a ∈ as, ∃ d, a = .sh d
  | [], ρ, ρ', as, h => by simp [evOs] at h; obtain ⟨rfl, _⟩ := h; exact fun _ z => nomatch z
  | f :: fs, ρ, ρ', as, h => by
    simp only [List.map_cons, evOs, evO] at h
    cases e : f ρ with
    | stuck => simp only [e] at h; cases h
    | exc c ρ1 => simp only [e] at h; cases h
    | ok r ρ1 =>
      simp only [e] at h
      cases q : evOs (fs.map .ex) ρ1 with
      | stuck => simp only [q] at h; cases h
      | exc c ρ2 => simp only [q] at h; cases h
      | ok as' ρ2 =>
        simp only [q] at h
        cases h
        intro a ha
        rcases List.mem_cons.mp ha with rfl | ha
        · exact ⟨_, rfl⟩
        · exact evOs_sh q a ha
theorem semMutG {i : Nat} {fs : List Ev} {m : List PyData → List PyData → Option (List PyData × PyData)} {r : V → List V → Hp → VK → Prop} (ok : MuOk K r m) {Q : VK} (h : SemE K W (evMut i fs m) σ H Q) :
    ∃ a, σ[i]? = some (some (.ref a)) ∧ (∃ vs, H a = some (.lst vs)) ∧ SemOs K W (fs.map .ex) σ H fun xs H1 => r (.ref a) xs H1 Q := by
  obtain ⟨al, own, ρ, p, h⟩ := h
  simp only [evMut] at h
  cases e : ρ[i]? with
  | none => simp only [e] at h
  | some s0 =>
    cases s0 with
    | none => simp only [e] at h
    | some s0 =>
      simp only [e] at h
      by_cases hw0 : (s0.wr && isL s0.d) = true
      · rw [if_pos hw0] at h
        obtain ⟨hw, hl⟩ := Bool.and_eq_true_iff.mp hw0
        obtain ⟨v, hv, ok0⟩ := p.sl i s0 e
        have own0 : ∃ a vs, own i = some a ∧ v = .ref a ∧ H a = some (.lst vs) := by
          have k : ∀ {a}, OwV K H (Zf al own) v s0.d a → ∃ vs, v = .ref a ∧ H a = some (.lst vs) := fun {a} o => by
            obtain ⟨e1, ⟨vs, ds, as, h1, h2, _, _⟩ | ⟨vs, ds, as, h1, _, _, _⟩⟩ := o
            · exact ⟨vs, e1, h2⟩
            · rw [h1] at hl; cases hl
          cases s0 with
          | sh d => cases hw
          | lk d => cases hw
          | ex a c => cases hw
          | ow d => obtain ⟨a, q, o, _⟩ := ok0; obtain ⟨vs, e1, h2⟩ := k o; exact ⟨a, vs, q, e1, h2⟩
          | io d => obtain ⟨a, q, o⟩ := ok0; obtain ⟨vs, e1, h2⟩ := k o; exact ⟨a, vs, q, e1, h2⟩
        obtain ⟨a, vs0, ea, rfl, ha0⟩ := own0
        refine ⟨a, hv, ⟨vs0, ha0⟩, al, own, ρ, p, ?_⟩
        cases q : evOs (fs.map .ex) ρ with
        | stuck => simp only [q] at h
        | exc c ρ1 => simp only [q] at h ⊢; exact h
        | ok as ρ1 =>
          simp only [q] at h ⊢
          intro xs H1 own1 p1 s1 ao
          cases e1 : ρ1[i]? with
          | none => simp only [e1] at h
          | some s =>
            cases s with
            | none => simp only [e1] at h
            | some s =>
              cases lk : looks ρ1 as with
              | none => simp only [e1, lk] at h
              | some es =>
                simp only [e1, lk] at h
                by_cases hws : s.wr = true
                · rw [if_pos hws] at h
                  cases sd : s.d with
                  | list ds =>
                    simp only [sd] at h
                    cases me : m ds es with
                    | none => simp only [me] at h
                    | some dy =>
                      obtain ⟨ds', y⟩ := dy
                      simp only [me] at h
                      obtain ⟨v1, hv1, ok1⟩ := p1.sl i s e1
                      rw [hv] at hv1
                      cases hv1
                      have own2 : own1 i = some a ∧ OwV K H1 (Zf al own1) (.ref a) s.d a ∧ ((∃ d', s = .ow d') → al a) := by
                        cases s with
                        | sh d => cases hws
                        | lk d => cases hws
                        | ex a c => cases hws
                        | ow d =>
                          obtain ⟨a', q1, o, z⟩ := ok1
                          have : a' = a := (V.ref.inj o.1).symm
                          subst this
                          exact ⟨q1, o, fun _ => z⟩
                        | io d =>
                          obtain ⟨a', q1, o⟩ := ok1
                          have : a' = a := (V.ref.inj o.1).symm
                          subst this
                          exact ⟨q1, o, fun ⟨d', z⟩ => nomatch z⟩
                      obtain ⟨ea1, o1, hal⟩ := own2
                      rw [sd] at o1
                      obtain ⟨_, ⟨vs, ds2, as2, h1, h2, h3, h4⟩ | ⟨vs, ds2, as2, h1, _, _, _⟩⟩ := o1
                      · cases h1
                        obtain ⟨cs, r2, z2⟩ := ArgsOk.free p1 (evOs_sh q) ao lk
                        have zz : ∀ b, Zf al own1 b → b ≠ a := fun b z q => z.2 i (q ▸ ea1)
                        refine ok (Zf al own1) H1 a vs xs ds es ds' as2 y Q h2 h3 h4 ⟨cs, r2, z2⟩ me fun v vs' as' bs r3 z3 r4 z4 => ?_
                        have n : OwV K (upd H1 a (.lst vs')) (Zf al own1) (.ref a) (.list ds') a := ⟨rfl, .inl ⟨vs', ds', as', rfl, upd_same, upd_rpA h2 trivial r3 fun b hb => zz b (z3 b hb), z3⟩⟩
                        obtain ⟨pp, ss⟩ := p1.mut (o' := .lst vs') e1 hws ea1 hv h2 trivial trivial (fun _ => hal) n
                        exact h v (upd H1 a (.lst vs')) own1 bs pp (s1.trans ss) (upd_rp h2 trivial r4 fun b hb => zz b (z4 b hb)) z4
                      · cases h1
                  | _ => simp only [sd] at h
                · rw [if_neg hws] at h; exact h.elim
      · rw [if_neg hw0] at h
        exact h.elim
theorem semMut {i : Nat} {fs : List Ev} {m : List PyData → List PyData → Option (List PyData × PyData)} {r : V → List V → Hp → VK → Prop} (ok : MuOk K r m) {Q : VK} (h : SemE K W (evMut i fs m) σ H Q) :
    tBM K "list" r (tVar i) (SemOs K W (fs.map .ex)) σ H Q := by
  obtain ⟨a, hv, ⟨vs, ha⟩, h⟩ := semMutG ok h
  exact ⟨.ref a, hv, .inl ⟨rfl, vs, .inl (.inl ha)⟩, h⟩
theorem semMut0 {i : Nat} {m : List PyData → List PyData → Option (List PyData × PyData)} {r : V → List V → Hp → VK → Prop} (ok : MuOk K r m) {Q : VK} (h : SemE K W (evMut i [] m) σ H Q) :
    tBM0 K "list" r (tVar i) σ H Q := by
  obtain ⟨a, hv, ⟨vs, ha⟩, h⟩ := semMutG ok h
  exact ⟨.ref a, hv, .inl ⟨rfl, vs, .inl (.inl ha)⟩, semOs_nil h⟩
/-- name[k] = e -/
def mSet (ds es : List PyData) : Option (List PyData × PyData) := match es with
  | [d, .int k] => if 0 ≤ k ∧ k < ds.length then some (ds.set k.toNat d, .none) else none
  | _ => none
theorem RpA.set {Z : Addr → Prop} {vs : List V} {ds : List PyData} {as : List Addr} (r : RpA K H vs ds as) (z : ∀ b ∈ as, Z b) (k : Nat) {v : V} {d : PyData} {cs : List Addr} (r2 : Rp K H v d cs) (z2 : ∀ b ∈ cs, Z b) : ∃ bs, RpA K H (vs.set k v) (ds.set k d) bs ∧ ∀ b ∈ bs, Z b := by
  refine RpA.of (by rw [List.length_set, List.length_set, r.length]) fun i v' d' e1 e2 => ?_
  rcases getElem?_set_cases e1 with ⟨rfl, rfl, _⟩ | ⟨hi, e3⟩
  · rcases getElem?_set_cases e2 with ⟨_, rfl, _⟩ | ⟨hi, _⟩
    · exact ⟨cs, r2, z2⟩
    · exact absurd rfl hi
  · rcases getElem?_set_cases e2 with ⟨h, _, _⟩ | ⟨_, e4⟩
    · exact absurd h hi
    · obtain ⟨w, bs, q1, q2, q3⟩ := r.get e4
      rw [e3] at q1
      cases q1
      exact ⟨bs, q2, fun b hb => z b (q3 b hb)⟩
def rSet' : V → List V → Hp → VK → Prop := fun o xs H Q => match xs with
  | [v, k] => rSetL o k v H fun H' => Q .non H'
  | _ => False
theorem mu_set : MuOk K rSet' mSet := by
  intro Z H a vs xs ds es ds' as y Q h1 r z ⟨cs, r2, z2⟩ me q
  match es, me with
  | [d, .int k], me =>
    simp only [mSet] at me
    split at me
    · rename_i hk
      cases me
      cases r2 with
      | cons r3 r4 =>
        cases r4 with
        | cons r5 r6 =>
          cases r6
          cases r5
          obtain ⟨bs, r7, z7⟩ := r.set z k.toNat r3 fun b hb => z2 b (List.mem_append_left _ hb)
          refine ⟨a, vs, k, k.toNat, rfl, rfl, h1, ?_, q .non _ _ [] r7 z7 .non fun _ z => nomatch z⟩
          unfold ixN
          rw [if_pos hk.1, if_pos (by rw [r.length]; exact hk.2)]
    · cases me
def sSet (i : Nat) (fe fk : Ev) : EvS := sEx (evMut i [fe, fk] mSet)
theorem SemE.ofS {f : Ev} (h : SemS K W (sEx f) D σ H) : SemE K W f σ H fun _ H1 => D.nx σ H1 := by
  obtain ⟨al, own, ρ, p, h⟩ := h
  refine ⟨al, own, ρ, p, ?_⟩
  simp only [sEx] at h
  cases e : f ρ with
  | stuck => simp only [e] at h; exact h
  | exc c ρ' => simp only [e] at h ⊢; exact ExS.toE h
  | ok r ρ' => simp only [e] at h ⊢; exact OkE.share fun v H' own' as p' s' _ _ => h σ H' own' p' s'
theorem s_set {i : Nat} {o k e : Expr} {fe fk : Ev} {p2 : Pos} (ho : PE X o (tVar i)) (he : PE X e (SemE X.K W fe)) (hk : PE X k (SemE X.K W fk))
    (ha : ∀ v, assign (.Subscript o k p2) X.env v = (do
      let ov ← holding [v] (eval o X.env)
      let iv ← holding [v, ov] (eval k X.env)
      standAt p2
      holding [v, ov, iv] (setItem ov iv v)
      release [v, ov, iv] []) := by intro _; rfl)
    (hs : swapsWithSole [.Subscript o k p2] e pos.line X.env = pure false := by rfl) (hw : swappedStores [.Subscript o k p2] e X.env = pure none := by rfl)
    (h1 : (assignEach [.Subscript o k p2] X.env).map (·.2) = [assign (.Subscript o k p2) X.env] := by rfl) :
    PS X (.Assign [.Subscript o k p2] e pos) (SemS X.K W (sSet i fe fk)) := PS.imp (ps_asg he (pg_sub ho hk set_list ha) hs hw h1) fun D σ H h => by
  obtain ⟨a, hv, ⟨vs, _⟩, q⟩ := semMutG mu_set (SemE.ofS h)
  exact SemO.mono (semOs_cons (o := .ex fe) q) fun x H1 q1 => ⟨.ref a, hv, SemO.mono (semOs_cons (o := .ex fk) q1) fun y H2 q2 => semOs_nil q2⟩
theorem pa_s0 : PA X [] (SemOs X.K W []) := PA.imp pa_nil fun _ _ _ h => semOs_nil h
theorem pa_s {e : Expr} {es : List Expr} {o : Opd} {os : List Opd} (ha : PE X e (SemO X.K W o)) (hr : PA X es (SemOs X.K W os)) (hs : starEach (e :: es) X.env = (false, eval e X.env) :: starEach es X.env := by rfl) : PA X (e :: es) (SemOs X.K W (o :: os)) :=
  PA.imp (pa_cons ha hr hs) fun _ _ _ h => semOs_cons h
/-! ### the mutators -/
def mAppend (ds es : List PyData) : Option (List PyData × PyData) := match es with
  | [d] => if ds.length < lineN then some (ds ++ [d], .none) else none
  | _ => none
theorem mu_append : MuOk K rAppend mAppend := by
  intro Z H a vs xs ds es ds' as y Q h1 r z ⟨cs, r2, z2⟩ me q
  match es, me with
  | [d], me =>
    simp only [mAppend] at me
    split at me
    · rename_i hl
      cases me
      cases r2 with
      | cons r3 r4 =>
        cases r4
        rename_i v0 bs0
        exact ⟨a, vs, v0, rfl, rfl, h1, by rw [line_eq, r.length]; exact hl, q .non _ _ [] (r.append (.cons r3 .nil)) (fun b hb => (List.mem_append.mp hb).elim (z b) (z2 b)) .non fun _ z => nomatch z⟩
    · cases me
def mPop (ds es : List PyData) : Option (List PyData × PyData) := match es with
  | [] => (match ds[ds.length - 1]? with
    | some y => some (ds.dropLast, y)
    | none => none)
  | _ => none
def mPopAt (ds es : List PyData) : Option (List PyData × PyData) := match es with
  | [.int i] => if cdec (0 ≤ i ∧ i < 1000000000) = true then (match ds[i.toNat]? with
    | some y => some (ds.eraseIdx i.toNat, y)
    | none => none) else none
  | _ => none
theorem RpA.eraseIdx {Z : Addr → Prop} {vs : List V} {ds : List PyData} {as : List Addr} (r : RpA K H vs ds as) (z : ∀ b ∈ as, Z b) (k : Nat) : ∃ bs, RpA K H (vs.eraseIdx k) (ds.eraseIdx k) bs ∧ ∀ b ∈ bs, Z b := by
  refine r.sub z (by rw [List.length_eraseIdx, List.length_eraseIdx, r.length]) fun i v d e1 e2 => ?_
  rw [List.getElem?_eraseIdx] at e1 e2
  by_cases h : i < k
  · rw [if_pos h] at e1 e2; exact ⟨i, e1, e2⟩
  · rw [if_neg h] at e1 e2; exact ⟨i + 1, e1, e2⟩
theorem mu_popAt : MuOk K rPopAt mPopAt := by
  intro Z H a vs xs ds es ds' as y Q h1 r z ⟨cs, r2, z2⟩ me q
  match es, me with
  | [.int i], me =>
    simp only [mPopAt] at me
    split at me
    · rename_i hi
      have hi := of_cdec hi
      cases e : ds[i.toNat]? with
      | none => simp only [e] at me; cases me
      | some y' =>
        simp only [e] at me
        cases me
        cases r2 with
        | cons r3 r4 =>
          cases r4
          cases r3
          obtain ⟨v, bs, e1, r5, z5⟩ := r.get e
          have hlt : i.toNat < vs.length := (List.getElem?_eq_some_iff.mp e1).1
          have hs : seqIndex? i vs.length = some i.toNat := by
            unfold seqIndex?
            simp only []
            have h0 : ¬ i < 0 := by omega
            simp [h0]
            omega
          obtain ⟨cs', r6, z6⟩ := r.eraseIdx z i.toNat
          exact ⟨a, vs, i, i.toNat, v, rfl, rfl, h1, by omega, by omega, hs, e1, q v _ _ bs r6 z6 r5 fun b hb => z b (z5 b hb)⟩
    · cases me
/-- name.append(e), name.pop(e), name.pop() -/
theorem pe_append {i : Nat} {o e : Expr} {f : Ev} {apos : Pos} (ho : PE X o (tVar i)) (he : PE X e (SemE X.K W f)) (hbase : attributeBase o "append" X.env (eval o X.env) = eval o X.env := by rfl)
    (hfew : ((backTo pos (starEach [e] X.env)).all (fun x => !x.1) && (backToKw pos (keywordEach [] X.env)).all (fun x => x.1.isSome)
      && decide ([e].length + ([] : List Keyword).length + (if ([] : List Keyword).isEmpty then 0 else 1) < 30)) = true := by rfl)
    (hline : (apos.endLine == pos.line) = true := by rfl) (hs : starEach [e] X.env = (false, eval e X.env) :: starEach [] X.env := by rfl) : PE X (.Call (.Attribute o "append" apos) [e] [] pos) (SemE X.K W (evMut i [f] mAppend)) :=
  PE.imp (pe_bm PySem.F.plainAttrs_list PySem.F.slot_list_append PySem.F.type_list_append mt_append ho (pa_s (o := .ex f) he pa_s0 hs) hbase hfew hline hs) fun _ _ _ h => semMut mu_append h
theorem pe_popAt {i : Nat} {o e : Expr} {f : Ev} {apos : Pos} (ho : PE X o (tVar i)) (he : PE X e (SemE X.K W f)) (hbase : attributeBase o "pop" X.env (eval o X.env) = eval o X.env := by rfl)
    (hfew : ((backTo pos (starEach [e] X.env)).all (fun x => !x.1) && (backToKw pos (keywordEach [] X.env)).all (fun x => x.1.isSome)
      && decide ([e].length + ([] : List Keyword).length + (if ([] : List Keyword).isEmpty then 0 else 1) < 30)) = true := by rfl)
    (hline : (apos.endLine == pos.line) = true := by rfl) (hs : starEach [e] X.env = (false, eval e X.env) :: starEach [] X.env := by rfl) : PE X (.Call (.Attribute o "pop" apos) [e] [] pos) (SemE X.K W (evMut i [f] mPopAt)) :=
  PE.imp (pe_bm PySem.F.plainAttrs_list PySem.F.slot_list_pop PySem.F.type_list_pop mt_popAt ho (pa_s (o := .ex f) he pa_s0 hs) hbase hfew hline hs) fun _ _ _ h => semMut mu_popAt h
end
end
end Ev
set_option Elab.async false
set_option linter.all false
set_option autoImplicit false
set_option maxRecDepth 100000
/-! Ev7: displays, subscripts, slices, built-ins. -/
namespace Ev
open PySem PySem.Spec L2
open PyProof.Rows hiding St
noncomputable section
section
variable {K : PySem.W.Frag} {W : WX} {al : Addr → Prop} {own own' own1 : Own} {ρ ρ' ρ1 : Env} {σ σ1 : St} {H H' H1 : Hp} {X : Cx} {pos : Pos} {D : Ends}
/-! ### operations on free arguments: displays -/
def FrOk (K : PySem.W.Frag) (r : List V → Hp → VK → Prop) (p : List PyData → Option Res) : Prop :=
  ∀ (Z : Addr → Prop) (H : Hp) (vs : List V) (ds : List PyData) (cs : List Addr) (res : Res) (Q : VK), RpA K H vs ds cs → (∀ b ∈ cs, Z b) → p ds = some res → PmQ K Z H Q res → r vs H Q
theorem semFr {r : List V → Hp → VK → Prop} {p : List PyData → Option Res} (ok : FrOk K r p) {fs : List Ev} {Q : VK} (h : SemE K W (evPm p (fs.map .ex)) σ H Q) : SemOs K W (fs.map .ex) σ H fun vs H' => r vs H' Q := by
  obtain ⟨al, own, ρ, pr, h⟩ := h
  refine ⟨al, own, ρ, pr, ?_⟩
  simp only [evPm] at h
  cases e : evOs (fs.map .ex) ρ with
  | stuck => simp only [e] at h
  | exc c ρ' => simp only [e] at h ⊢; exact h
  | ok as ρ' =>
    simp only [e] at h ⊢
    intro vs H' own' p' s' ao
    cases l : looks ρ' as with
    | none => simp only [l] at h
    | some ds =>
      simp only [l] at h
      cases q : p ds with
      | none => simp only [q] at h
      | some r' =>
        simp only [q] at h
        obtain ⟨cs, r2, z2⟩ := ArgsOk.free p' (evOs_sh e) ao l
        exact ok (Zf al own') H' vs ds cs r' Q r2 z2 q (PmQ.of p' (OkE.after s' h))
def pTup (ds : List PyData) : Option Res := if ds.length ≤ lineN then some (.sh (.tuple ds)) else none
def pLst (ds : List PyData) : Option Res := if ds.length ≤ lineN then some (.ow (.list ds)) else none
theorem fr_tup : FrOk K (fun xs H Q => xs.length ≤ sizeLine ∧ ∀ p, H p = none → Q (.ref p) (upd H p (.tup xs))) pTup := by
  intro Z H vs ds cs res Q r z h q
  simp only [pTup] at h
  split at h
  · rename_i hl
    cases h
    exact ⟨by rw [line_eq, r.length]; exact hl, fun p hp => q.tup r z hp⟩
  · cases h
theorem fr_lst : FrOk K (fun xs H Q => xs.length ≤ sizeLine ∧ ∀ p, H p = none → Q (.ref p) (upd H p (.lst xs))) pLst := by
  intro Z H vs ds cs res Q r z h q
  simp only [pLst] at h
  split at h
  · rename_i hl
    cases h
    exact ⟨by rw [line_eq, r.length]; exact hl, fun p hp => q.lst r z hp⟩
  · cases h
theorem pe_tupD {es : List Expr} {fs : List Ev} {x1 : _} (h : PA X es (SemOs X.K W (fs.map .ex))) : PE X (.Tuple es x1 pos) (SemE X.K W (evPm pTup (fs.map .ex))) := PE.imp (pe_tup h) fun _ _ _ h => semFr fr_tup h
theorem pe_lstD {es : List Expr} {fs : List Ev} (h : PA X es (SemOs X.K W (fs.map .ex))) : PE X (.List es pos) (SemE X.K W (evPm pLst (fs.map .ex))) := PE.imp (pe_lst h) fun _ _ _ h => semFr fr_lst h
/-! ### a[i] -/
def fIx : PyData → PyData → Option Res
  | .list ds, .int i => (atI ds i).map .sh
  | .tuple ds, .int i => (atI ds i).map .sh
  | .str z, .int i => if z.length ≤ lineN then (atI z.cps.toList i).map fun c => .sh (.str ⟨#[c]⟩) else none
  | _, _ => none
theorem RpA.atI {vs : List V} {ds : List PyData} {as : List Addr} (r : RpA K H vs ds as) {i : Int} {d : PyData} (e : L2.atI ds i = some d) : ∃ v bs, L2.atI vs i = some v ∧ Rp K H v d bs ∧ ∀ b ∈ bs, b ∈ as := by
  unfold L2.atI at e ⊢
  rw [r.length]
  cases q : ixN ds.length i with
  | none => rw [q] at e; cases e
  | some j => rw [q] at e; exact r.get e
theorem ok_ix : Ok2 K (rIx K) fIx := by
  intro Z H x y d e res Q hx hy h q
  cases e <;> first | (cases d <;> cases h; done) | skip
  rename_i i
  cases d with
  | list ds =>
    simp only [fIx, Option.map_eq_some_iff] at h
    obtain ⟨d, e1, rfl⟩ := h
    obtain ⟨a, vs, as, rfl, h1, r, z⟩ := hx.list
    obtain ⟨v, bs, e2, r2, z2⟩ := r.atI e1
    exact .inl ⟨a, vs, i, v, rfl, hy.int, h1, e2, q.part r2 fun b hb => z b (z2 b hb)⟩
  | tuple ds =>
    simp only [fIx, Option.map_eq_some_iff] at h
    obtain ⟨d, e1, rfl⟩ := h
    obtain ⟨a, vs, as, rfl, h1, r, z⟩ := hx.tuple
    obtain ⟨v, bs, e2, r2, z2⟩ := r.atI e1
    exact .inr (.inl ⟨a, vs, i, v, rfl, hy.int, h1, e2, q.part r2 fun b hb => z b (z2 b hb)⟩)
  | str s =>
    simp only [fIx] at h
    split at h
    · rename_i hl
      simp only [Option.map_eq_some_iff] at h
      obtain ⟨c, e1, rfl⟩ := h
      exact .inr (.inr ⟨s, i, c, hx.str, hy.int, by rw [line_eq]; exact hl, e1, q.val (.str _)⟩)
    · cases h
  | _ => cases h
theorem pe_sub1 {a b : Expr} {oa ob : Opd} (ha : PE X a (SemO X.K W oa)) (hb : PE X b (SemO X.K W ob)) (hs : PlainIx b := by intro _ _; rfl) : PE X (.Subscript a b pos) (SemE X.K W (evPm (pm2 fIx) [oa, ob])) :=
  PE.imp (pe_ix ix_seq ha hb hs) fun σ H Q h => sem2 (semPm (pm2_ok ok_ix) h)
/-! ### a[lo:hi] -/
def cutD {α : Type} (xs : List α) (lo hi : Option Int) : List α := (xs.drop (HT.sIx xs.length 0 lo)).take (HT.sIx xs.length xs.length hi - HT.sIx xs.length 0 lo)
theorem cutV_eq (xs : List V) (lo hi : Option Int) : cutV xs lo hi = cutD xs lo hi := rfl
theorem RpA.cut {Z : Addr → Prop} {vs : List V} {ds : List PyData} {as : List Addr} (r : RpA K H vs ds as) (z : ∀ b ∈ as, Z b) (lo hi : Option Int) : ∃ bs, RpA K H (cutD vs lo hi) (cutD ds lo hi) bs ∧ ∀ b ∈ bs, Z b := by
  refine r.sub z (by unfold cutD; rw [List.length_take, List.length_take, List.length_drop, List.length_drop, r.length]) fun i v d e1 e2 => ?_
  unfold cutD at e1 e2
  rw [List.getElem?_take] at e1 e2
  split at e1
  · rename_i hi1
    split at e2
    · rw [List.getElem?_drop] at e1 e2
      rw [r.length] at e1
      exact ⟨_, e1, e2⟩
    · cases e2
  · cases e1
def slF (lo hi : Option Int) : PyData → Option Res
  | .list ds => some (.ow (.list (cutD ds lo hi)))
  | .tuple ds => some (.sh (.tuple (cutD ds lo hi)))
  | .str z => if z.length ≤ lineN then some (.sh (.str (cutS z lo hi))) else none
  | _ => none
def pSl00 : List PyData → Option Res
  | [d] => slF none none d
  | _ => none
def pSl10 : List PyData → Option Res
  | [d, .int i] => slF (some i) none d
  | _ => none
def pSl01 : List PyData → Option Res
  | [d, .int j] => slF none (some j) d
  | _ => none
def pSl11 : List PyData → Option Res
  | [d, .int i, .int j] => slF (some i) (some j) d
  | _ => none
theorem VwA.one {Z : Addr → Prop} {vs : List V} {d : PyData} (h : VwA K H Z vs [d]) : ∃ x, vs = [x] ∧ Vw K H Z x d := by
  cases vs with
  | nil => exact h.elim
  | cons x vs =>
    cases vs with
    | nil => exact ⟨x, rfl, h.1⟩
    | cons y vs => exact h.2.elim
theorem VwA.two {Z : Addr → Prop} {vs : List V} {d e : PyData} (h : VwA K H Z vs [d, e]) : ∃ x y, vs = [x, y] ∧ Vw K H Z x d ∧ Vw K H Z y e := by
  cases vs with
  | nil => exact h.elim
  | cons x vs => obtain ⟨y, rfl, h2⟩ := VwA.one h.2; exact ⟨x, y, rfl, h.1, h2⟩
theorem VwA.three {Z : Addr → Prop} {vs : List V} {d e f : PyData} (h : VwA K H Z vs [d, e, f]) : ∃ x y z, vs = [x, y, z] ∧ Vw K H Z x d ∧ Vw K H Z y e ∧ Vw K H Z z f := by
  cases vs with
  | nil => exact h.elim
  | cons x vs => obtain ⟨y, z, rfl, h2, h3⟩ := VwA.two h.2; exact ⟨x, y, z, rfl, h.1, h2, h3⟩
abbrev rSlX (K : PySem.W.Frag) : V → Option Int → Option Int → Hp → VK → Prop := fun x lo hi H Q => rSlL K x lo hi H Q ∨ (rSlA K x lo hi H Q ∨ rSlS x lo hi H Q)
theorem sl_X : SlR X (rSlX X.K) := sl_list.or (sl_tupA.or sl_str)
theorem slF_ok {Z : Addr → Prop} {x : V} {d : PyData} {lo hi : Option Int} {res : Res} {Q : VK} (hx : Vw K H Z x d) (h : slF lo hi d = some res) (q : PmQ K Z H Q res) : rSlX K x lo hi H Q := by
  cases d with
  | list ds =>
    cases h
    obtain ⟨a, vs, as, rfl, h1, r, z⟩ := hx.list
    obtain ⟨bs, r2, z2⟩ := r.cut z lo hi
    exact .inl ⟨a, vs, rfl, h1, fun p hp => q.lst r2 z2 hp⟩
  | tuple ds =>
    cases h
    obtain ⟨a, vs, as, rfl, h1, r, z⟩ := hx.tuple
    obtain ⟨bs, r2, z2⟩ := r.cut z lo hi
    refine .inr (.inl ⟨a, vs, rfl, h1, fun ⟨e1, e2⟩ => ?_, fun _ p hp => q.tup r2 z2 hp⟩)
    have e : cutD ds lo hi = ds := by
      unfold cutD
      rw [← r.length, e1, e2, List.drop_zero, Nat.sub_zero, r.length, List.take_length]
    rw [e] at q
    exact q.part (.tup h1 r) z
  | str s =>
    simp only [slF] at h
    split at h
    · rename_i hl
      cases h
      exact .inr (.inr ⟨s, hx.str, by rw [line_eq]; exact hl, q.val (.str _)⟩)
    · cases h
  | _ => cases h
def rSl00 (K : PySem.W.Frag) : List V → Hp → VK → Prop := fun vs H Q => ∃ x, vs = [x] ∧ rSlX K x none none H Q
def rSl10 (K : PySem.W.Frag) : List V → Hp → VK → Prop := fun vs H Q => ∃ x i, vs = [x, .int i] ∧ rSlX K x (some i) none H Q
def rSl01 (K : PySem.W.Frag) : List V → Hp → VK → Prop := fun vs H Q => ∃ x i, vs = [x, .int i] ∧ rSlX K x none (some i) H Q
def rSl11 (K : PySem.W.Frag) : List V → Hp → VK → Prop := fun vs H Q => ∃ x i j, vs = [x, .int i, .int j] ∧ rSlX K x (some i) (some j) H Q
theorem ok_sl00 : PmOk K (rSl00 K) pSl00 := by
  intro Z H vs ds res Q hv h q
  unfold pSl00 at h
  split at h
  · obtain ⟨x, rfl, hx⟩ := hv.one; exact ⟨x, rfl, slF_ok hx h q⟩
  · cases h
theorem ok_sl10 : PmOk K (rSl10 K) pSl10 := by
  intro Z H vs ds res Q hv h q
  unfold pSl10 at h
  split at h
  · obtain ⟨x, y, rfl, hx, hy⟩ := hv.two; exact ⟨x, _, by rw [hy.int], slF_ok hx h q⟩
  · cases h
theorem ok_sl01 : PmOk K (rSl01 K) pSl01 := by
  intro Z H vs ds res Q hv h q
  unfold pSl01 at h
  split at h
  · obtain ⟨x, y, rfl, hx, hy⟩ := hv.two; exact ⟨x, _, by rw [hy.int], slF_ok hx h q⟩
  · cases h
theorem ok_sl11 : PmOk K (rSl11 K) pSl11 := by
  intro Z H vs ds res Q hv h q
  unfold pSl11 at h
  split at h
  · obtain ⟨x, y, z, rfl, hx, hy, hz⟩ := hv.three; exact ⟨x, _, _, by rw [hy.int, hz.int], slF_ok hx h q⟩
  · cases h
variable {a b c : Expr} {oa ob oc : Opd} {p2 : Pos}
theorem pe_sl00 (ha : PE X a (SemO X.K W oa)) : PE X (.Subscript a (.Slice none none none p2) pos) (SemE X.K W (evPm pSl00 [oa])) :=
  PE.imp (pe_slice sl_X ha po_none po_none) fun σ H Q h => SemO.mono (sem1 (semPm ok_sl00 h)) fun x H1 ⟨x', e, q⟩ => by cases e; exact q
theorem pe_sl10 (ha : PE X a (SemO X.K W oa)) (hb : PE X b (SemO X.K W ob)) : PE X (.Subscript a (.Slice (some b) none none p2) pos) (SemE X.K W (evPm pSl10 [oa, ob])) :=
  PE.imp (pe_slice sl_X ha (po_some hb) po_none) fun σ H Q h => SemO.mono (sem2 (semPm ok_sl10 h)) fun x H1 q => SemO.mono q fun y H2 ⟨x', i, e, q⟩ => by cases e; exact ⟨i, rfl, q⟩
theorem pe_sl01 (ha : PE X a (SemO X.K W oa)) (hb : PE X b (SemO X.K W ob)) : PE X (.Subscript a (.Slice none (some b) none p2) pos) (SemE X.K W (evPm pSl01 [oa, ob])) :=
  PE.imp (pe_slice sl_X ha po_none (po_some hb)) fun σ H Q h => SemO.mono (sem2 (semPm ok_sl01 h)) fun x H1 q => SemO.mono q fun y H2 ⟨x', i, e, q⟩ => by cases e; exact ⟨i, rfl, q⟩
theorem sem3 {o o' o2 : Opd} {R : List V → Hp → Prop} (h : SemOs K W [o, o', o2] σ H R) : SemO K W o σ H fun x H1 => SemO K W o' σ H1 fun y H2 => SemO K W o2 σ H2 fun z H3 => R [x, y, z] H3 :=
  SemO.mono (semOs_cons h) fun x H1 q => sem2 q
/-- the value must be an int -/
def evInt (f : Ev) : Ev := fun ρ => match f ρ with
  | .ok (.sh (.int i)) ρ' => .ok (.sh (.int i)) ρ'
  | .ok _ _ => .stuck
  | .exc c ρ' => .exc c ρ'
  | .stuck => .stuck
theorem semInt {f : Ev} {Q : VK} (h : SemE K W (evInt f) σ H Q) : SemE K W f σ H fun v H1 => ∃ i, v = .int i ∧ Q v H1 := by
  obtain ⟨al, own, ρ, p, h⟩ := h
  refine ⟨al, own, ρ, p, ?_⟩
  simp only [evInt] at h
  cases e : f ρ with
  | stuck => simp only [e] at h
  | exc c ρ' => simp only [e] at h ⊢; exact h
  | ok r ρ' =>
    simp only [e] at h ⊢
    cases r with
    | ow d => exact h.elim
    | sh d =>
      cases d <;> first | exact h.elim | skip
      intro v H' own' as p' s' r' z'
      cases r'
      exact ⟨_, rfl, h _ H' own' [] p' s' (.int _) z'⟩
theorem pe_sl11 {fb : Ev} (ha : PE X a (SemO X.K W oa)) (hb : PE X b (SemE X.K W fb)) (hc : PE X c (SemO X.K W oc)) : PE X (.Subscript a (.Slice (some b) (some c) none p2) pos) (SemE X.K W (evPm pSl11 [oa, .ex (evInt fb), oc])) :=
  PE.imp (pe_slice sl_X ha (po_some hb) (po_some hc)) fun σ H Q h => SemO.mono (sem3 (semPm ok_sl11 h)) fun x H1 q => SemE.mono (semInt q) fun y H2 ⟨i, e, q⟩ => ⟨i, e, SemO.mono q fun z H3 ⟨x', i', j, e2, q⟩ => by
    subst e
    cases e2
    exact ⟨j, rfl, q⟩⟩
/-! ### built-ins by their names -/
theorem pe_cb {id : String} {x : Str} {p : Pos} {es : List Expr} {os : List Opd} {r : List V → Hp → VK → Prop} {f : List PyData → Option Res} {e : Expr} (hc : CallR X (.builtin id) r) (ok : PmOk X.K r f) (hg : Gl X x) (hm : X.mg x = none) (hv : bootBuiltins x = some (.builtin id)) (ha : PA X (e :: es) (SemOs X.K W os))
    (hn : x ≠ "__name__" := by decide) (hdb : (x == ("__debug__" : Str)) = false := by decide) (he : starEach (e :: es) X.env = (false, eval e X.env) :: starEach es X.env := by rfl) (hpl : (backTo pos (starEach es X.env)).any (·.1) = false := by rfl) :
    PE X (.Call (.Name x p) (e :: es) [] pos) (SemE X.K W (evPm f os)) := PE.imp (pe_callB hc hg hm hv ha hn hdb he hpl) fun _ _ _ h => semPm ok h
theorem pe_ct {T : String} {x : Str} {p : Pos} {es : List Expr} {os : List Opd} {r : List V → Hp → VK → Prop} {f : List PyData → Option Res} {e : Expr} (hc : CallR X (.type T) r) (ok : PmOk X.K r f) (hg : Gl X x) (hm : X.mg x = none) (hv : bootBuiltins x = some (.type T)) (ha : PA X (e :: es) (SemOs X.K W os))
    (hn : x ≠ "__name__" := by decide) (hdb : (x == ("__debug__" : Str)) = false := by decide) (he : starEach (e :: es) X.env = (false, eval e X.env) :: starEach es X.env := by rfl) (hpl : (backTo pos (starEach es X.env)).any (·.1) = false := by rfl) :
    PE X (.Call (.Name x p) (e :: es) [] pos) (SemE X.K W (evPm f os)) := PE.imp (pe_callTy hc hg hm hv ha hn hdb he hpl) fun _ _ _ h => semPm ok h
def pLen : List PyData → Option Res
  | [.list ds] => some (.sh (.int ds.length))
  | [.tuple ds] => some (.sh (.int ds.length))
  | [.str z] => if z.length ≤ lineN then some (.sh (.int z.length)) else none
  | _ => none
theorem ok_len : PmOk K (fun xs H Q => ∃ x n, xs = [x] ∧ LenV K x H n ∧ Q (.int n) H) pLen := by
  intro Z H vs ds res Q hv h q
  unfold pLen at h
  split at h
  · cases h
    obtain ⟨x, rfl, hx⟩ := hv.one
    obtain ⟨a, vs, as, rfl, h1, r, z⟩ := hx.list
    exact ⟨_, _, rfl, .inl ⟨vs, h1, rfl⟩, by rw [r.length]; exact q.val (.int _)⟩
  · cases h
    obtain ⟨x, rfl, hx⟩ := hv.one
    obtain ⟨a, vs, as, rfl, h1, r, z⟩ := hx.tuple
    exact ⟨_, _, rfl, .inr ⟨vs, h1, rfl⟩, by rw [r.length]; exact q.val (.int _)⟩
  · split at h
    · rename_i hl
      cases h
      obtain ⟨x, rfl, hx⟩ := hv.one
      exact ⟨_, _, rfl, by rw [hx.str]; exact ⟨by rw [line_eq]; exact hl, rfl⟩, q.val (.int _)⟩
    · cases h
  · cases h
/-- list(x), tuple(x) -/
def pList : List PyData → Option Res
  | [.list ds] => some (.ow (.list ds))
  | [.tuple ds] => some (.ow (.list ds))
  | _ => none
def pTuple : List PyData → Option Res
  | [.list ds] => some (.sh (.tuple ds))
  | [.tuple ds] => some (.sh (.tuple ds))
  | _ => none
theorem ok_list : PmOk K (fun xs H Q => ∃ p ys, xs = [.ref p] ∧ (SqL K H p ys ∨ SqT K H p ys) ∧ ∀ l, H l = none → Q (.ref l) (upd H l (.lst ys))) pList := by
  intro Z H vs ds res Q hv h q
  unfold pList at h
  split at h
  · cases h
    obtain ⟨x, rfl, hx⟩ := hv.one
    obtain ⟨a, vs, as, rfl, h1, r, z⟩ := hx.list
    exact ⟨a, vs, rfl, .inl h1, fun p hp => q.lst r z hp⟩
  · cases h
    obtain ⟨x, rfl, hx⟩ := hv.one
    obtain ⟨a, vs, as, rfl, h1, r, z⟩ := hx.tuple
    exact ⟨a, vs, rfl, .inr h1, fun p hp => q.lst r z hp⟩
  · cases h
theorem ok_tuple : PmOk K (fun xs H Q => ∃ p ys, xs = [.ref p] ∧ ((SqL K H p ys ∧ ∀ l, H l = none → Q (.ref l) (upd H l (.tup ys))) ∨ (SqT K H p ys ∧ Q (.ref p) H))) pTuple := by
  intro Z H vs ds res Q hv h q
  unfold pTuple at h
  split at h
  · cases h
    obtain ⟨x, rfl, hx⟩ := hv.one
    obtain ⟨a, vs, as, rfl, h1, r, z⟩ := hx.list
    exact ⟨a, vs, rfl, .inl ⟨h1, fun p hp => q.tup r z hp⟩⟩
  · cases h
    obtain ⟨x, rfl, hx⟩ := hv.one
    obtain ⟨a, vs, as, rfl, h1, r, z⟩ := hx.tuple
    exact ⟨a, vs, rfl, .inr ⟨h1, q.part (.tup h1 r) z⟩⟩
  · cases h
/-- int(n), int(flag) -/
def pInt : List PyData → Option Res
  | [.int i] => some (.sh (.int i))
  | [.bool b] => some (.sh (.int (if b then 1 else 0)))
  | _ => none
theorem ok_int : PmOk K (fun xs H Q => (∃ i, xs = [.int i] ∧ Q (.int i) H) ∨ ∃ k, xs = [.bl k] ∧ Q (.int (if k then 1 else 0)) H) pInt := by
  intro Z H vs ds res Q hv h q
  unfold pInt at h
  split at h
  · cases h
    obtain ⟨x, rfl, hx⟩ := hv.one
    exact .inl ⟨_, by rw [hx.int], q.val (.int _)⟩
  · cases h
    obtain ⟨x, rfl, hx⟩ := hv.one
    exact .inr ⟨_, by rw [hx.bl], q.val (.int _)⟩
  · cases h
/-- max(m, n), min(m, n) -/
def pMax2 : List PyData → Option Res
  | [.int i, .int j] => some (.sh (.int (if j > i then j else i)))
  | _ => none
def pMin2 : List PyData → Option Res
  | [.int i, .int j] => some (.sh (.int (if j < i then j else i)))
  | _ => none
theorem ok_max2 : PmOk K (fun xs H Q => ∃ i j, xs = [.int i, .int j] ∧ Q (.int (if j > i then j else i)) H) pMax2 := by
  intro Z H vs ds res Q hv h q
  unfold pMax2 at h
  split at h
  · cases h
    obtain ⟨x, y, rfl, hx, hy⟩ := hv.two
    exact ⟨_, _, by rw [hx.int, hy.int], q.val (.int _)⟩
  · cases h
theorem ok_min2 : PmOk K (fun xs H Q => ∃ i j, xs = [.int i, .int j] ∧ Q (.int (if j < i then j else i)) H) pMin2 := by
  intro Z H vs ds res Q hv h q
  unfold pMin2 at h
  split at h
  · cases h
    obtain ⟨x, y, rfl, hx, hy⟩ := hv.two
    exact ⟨_, _, by rw [hx.int, hy.int], q.val (.int _)⟩
  · cases h
/-- lists of ints, of truth values -/
def intsD : List PyData → Option (List Int)
  | [] => some []
  | .int i :: ds => (intsD ds).map (i :: ·)
  | _ :: _ => none
def blsD : List PyData → Option (List Bool)
  | [] => some []
  | .bool b :: ds => (blsD ds).map (b :: ·)
  | _ :: _ => none
theorem RpA.ints : ∀ {ds : List PyData} {ns : List Int} {vs : List V} {as : List Addr}, RpA K H vs ds as → intsD ds = some ns → vs = ns.map V.int
  | [], ns, vs, as, r, h => by cases h; cases r; rfl
  | .int i :: ds, ns, vs, as, r, h => by
    simp only [intsD, Option.map_eq_some_iff] at h
    obtain ⟨ms, h1, rfl⟩ := h
    cases r with
    | cons r1 r2 => cases r1; rw [RpA.ints r2 h1]; rfl
  | .none :: _, _, _, _, _, h => by cases h
  | .bool _ :: _, _, _, _, _, h => by cases h
  | .str _ :: _, _, _, _, _, h => by cases h
  | .list _ :: _, _, _, _, _, h => by cases h
  | .tuple _ :: _, _, _, _, _, h => by cases h
  | .dict _ :: _, _, _, _, _, h => by cases h
theorem RpA.bls : ∀ {ds : List PyData} {ns : List Bool} {vs : List V} {as : List Addr}, RpA K H vs ds as → blsD ds = some ns → vs = ns.map V.bl
  | [], ns, vs, as, r, h => by cases h; cases r; rfl
  | .bool i :: ds, ns, vs, as, r, h => by
    simp only [blsD, Option.map_eq_some_iff] at h
    obtain ⟨ms, h1, rfl⟩ := h
    cases r with
    | cons r1 r2 => cases r1; rw [RpA.bls r2 h1]; rfl
  | .none :: _, _, _, _, _, h => by cases h
  | .int _ :: _, _, _, _, _, h => by cases h
  | .str _ :: _, _, _, _, _, h => by cases h
  | .list _ :: _, _, _, _, _, h => by cases h
  | .tuple _ :: _, _, _, _, _, h => by cases h
  | .dict _ :: _, _, _, _, _, h => by cases h
def pSum : List PyData → Option Res
  | [.list ds] => (intsD ds).map fun ns => .sh (.int ns.sum)
  | _ => none
def pAll : List PyData → Option Res
  | [.list ds] => (blsD ds).map fun bs => .sh (.bool (bs.all id))
  | _ => none
def pAny : List PyData → Option Res
  | [.list ds] => (blsD ds).map fun bs => .sh (.bool (bs.any id))
  | _ => none
theorem ok_sum : PmOk K (rSum K) pSum := by
  intro Z H vs ds res Q hv h q
  unfold pSum at h
  split at h
  · simp only [Option.map_eq_some_iff] at h
    obtain ⟨ns, h1, rfl⟩ := h
    obtain ⟨x, rfl, hx⟩ := hv.one
    obtain ⟨a, vs, as, rfl, h2, r, z⟩ := hx.list
    rw [RpA.ints r h1] at h2
    exact ⟨a, ns, rfl, h2, q.val (.int _)⟩
  · cases h
theorem ok_all : PmOk K (rAll K) pAll := by
  intro Z H vs ds res Q hv h q
  unfold pAll at h
  split at h
  · simp only [Option.map_eq_some_iff] at h
    obtain ⟨ns, h1, rfl⟩ := h
    obtain ⟨x, rfl, hx⟩ := hv.one
    obtain ⟨a, vs, as, rfl, h2, r, z⟩ := hx.list
    rw [RpA.bls r h1] at h2
    exact ⟨a, ns, rfl, h2, q.val (.bl _)⟩
  · cases h
theorem ok_any : PmOk K (rAny K) pAny := by
  intro Z H vs ds res Q hv h q
  unfold pAny at h
  split at h
  · simp only [Option.map_eq_some_iff] at h
    obtain ⟨ns, h1, rfl⟩ := h
    obtain ⟨x, rfl, hx⟩ := hv.one
    obtain ⟨a, vs, as, rfl, h2, r, z⟩ := hx.list
    rw [RpA.bls r h1] at h2
    exact ⟨a, ns, rfl, h2, q.val (.bl _)⟩
  · cases h
end
end
end Ev
set_option Elab.async false
set_option linter.all false
set_option autoImplicit false
set_option maxRecDepth 100000
/-! Ev8: targets, what is walked, for. -/
namespace Ev
open PySem PySem.Spec L2
open PyProof.Rows hiding St
noncomputable section
/-! ### targets -/
inductive Tg where
  | nm (i : Nat) | tup (ts : List Tg)
mutual
def bindT : Tg → PyData → Env → Option Env
  | .nm i, d, ρ => putR i (.sh d) ρ
  | .tup ts, .tuple ds, ρ => bindTs ts ds ρ
  | .tup _, _, _ => none
def bindTs : List Tg → List PyData → Env → Option Env
  | [], [], ρ => some ρ
  | t :: ts, d :: ds, ρ => match bindT t d ρ with
    | some ρ' => bindTs ts ds ρ'
    | none => none
  | _, _, _ => none
end
mutual
def Tg.ixs : Tg → List Nat
  | .nm i => [i]
  | .tup ts => ixsA ts
def ixsA : List Tg → List Nat
  | [] => []
  | t :: ts => t.ixs ++ ixsA ts
end
/-- the slots but is stand as they were -/
def Agr (is : List Nat) (σ σ' : St) : Prop := ∀ i, i ∉ is → σ'[i]? = σ[i]?
def SemG (K : PySem.W.Frag) (t : Tg) : TG := fun v σ H Q => ∃ al own ρ d as ρ', Pre K al own ρ σ H ∧ Rp K H v d as ∧ (∀ b ∈ as, Zf al own b) ∧ bindT t d ρ = some ρ' ∧ ∀ σ' own', Pre K al own' ρ' σ' H → Stp own ρ H own' ρ' H → Agr t.ixs σ σ' → Q σ' H
def SemGs (K : PySem.W.Frag) (ts : List Tg) : TGs := fun vs σ H Q => ∃ al own ρ ds as ρ', Pre K al own ρ σ H ∧ RpA K H vs ds as ∧ (∀ b ∈ as, Zf al own b) ∧ bindTs ts ds ρ = some ρ' ∧ ∀ σ' own', Pre K al own' ρ' σ' H → Stp own ρ H own' ρ' H → Agr (ixsA ts) σ σ' → Q σ' H
section
variable {K : PySem.W.Frag} {W : WX} {al : Addr → Prop} {own own' own1 : Own} {ρ ρ' ρ1 : Env} {σ σ1 : St} {H H' H1 : Hp} {X : Cx} {pos : Pos} {D : Ends}
theorem PG.imp {e : Expr} {t t' : TG} (h : PG X e t) (i : ∀ v σ H Q, t' v σ H Q → t v σ H Q) : PG X e t' := ⟨fun pins s σ H v u Q I r q => h.run pins s σ H v u Q I r (i v σ H Q q)⟩
theorem PGs.imp {e : List Expr} {t t' : TGs} (h : PGs X e t) (i : ∀ v σ H Q, t' v σ H Q → t v σ H Q) : PGs X e t' := ⟨fun pins s σ H v u Q I r q => h.run pins s σ H v u Q I r (i v σ H Q q)⟩
theorem g_nm {i : Nat} {x : Str} (hN : X.N.Nodup) (hi : X.N[i]? = some x) (hx : Loc X.env.scope x) (hf : X.fn x = true ∨ X.env.scope.names.lookup x = some .local := by first | exact .inl rfl | exact .inr rfl | assumption) : PG X (.Name x pos) (SemG X.K (.nm i)) :=
  PG.imp (pg_name hN hi hx hf) fun v σ H Q ⟨al, own, ρ, d, as, ρ', p, r, z, e, k⟩ => by
    obtain ⟨p2, s2⟩ := put_sh p e r z
    exact k _ _ p2 s2 fun j hj => List.getElem?_set_ne (fun e => hj (by simp [Tg.ixs, e]))
theorem g_nil : PGs X [] (SemGs X.K []) := PGs.imp pgs_nil fun v σ H Q ⟨al, own, ρ, ds, as, ρ', p, r, z, e, k⟩ => by
  cases ds with
  | cons d ds => simp [bindTs] at e
  | nil =>
    simp only [bindTs, Option.some.injEq] at e
    subst e
    cases r
    exact ⟨rfl, k σ own p .refl fun _ _ => rfl⟩
theorem g_cons {e : Expr} {es : List Expr} {t : Tg} {ts : List Tg} (h1 : PG X e (SemG X.K t)) (h2 : PGs X es (SemGs X.K ts))
    (hs : (assignEach (e :: es) X.env).map (·.2) = assign e X.env :: (assignEach es X.env).map (·.2) := by rfl) : PGs X (e :: es) (SemGs X.K (t :: ts)) := PGs.imp (pgs_cons h1 h2 hs) fun v σ H Q ⟨al, own, ρ, ds, as, ρ', p, r, z, e, k⟩ => by
  cases ds with
  | nil => simp [bindTs] at e
  | cons d ds =>
    cases r with
    | cons r1 r2 =>
      simp only [bindTs] at e
      cases q : bindT t d ρ with
      | none => simp [q] at e
      | some ρ1 =>
        simp only [q] at e
        refine ⟨_, _, rfl, al, own, ρ, d, _, ρ1, p, r1, fun b hb => z b (List.mem_append_left _ hb), q, fun σ1 own1 p1 s1 a1 => ?_⟩
        have z2 : ∀ b ∈ _, Zf al own b := fun b hb => z b (List.mem_append_right _ hb)
        refine ⟨al, own1, ρ1, ds, _, ρ', p1, r2, fun b hb => ⟨(z2 b hb).1, fun i e1 => ?_⟩, e, fun σ2 own2 p2 s2 a2 => k σ2 own2 p2 (s1.trans s2) fun j hj => (a2 j fun h => hj (by simp [ixsA, h])).trans (a1 j fun h => hj (by simp [ixsA, h]))⟩
        rcases s1.nw i b e1 with ⟨j, q1⟩ | q1
        · exact (z2 b hb).2 j q1
        · exact RpA.there _ _ _ r2 b hb q1
theorem g_tup {es : List Expr} {k : Nat} {ts : List Tg} (hc : X.calm = true) (h : PGs X es (SemGs X.K ts)) (hl : es.length = ts.length := by rfl)
    (hn : (assignEach es X.env).length = es.length := by rfl) (hst : (assignEach es X.env).findIdx? (·.1) = none := by rfl) : PG X (.Tuple es k pos) (SemG X.K (.tup ts)) := PG.imp (pg_tup hc h hn hst) fun v σ H Q ⟨al, own, ρ, d, as, ρ', p, r, z, e, k⟩ => by
  cases d with
  | tuple ds =>
    cases r with
    | tup h1 h2 =>
      simp only [bindT] at e
      have ln : ∀ (ts : List Tg) (ds : List PyData) (ρ ρ' : Env), bindTs ts ds ρ = some ρ' → ts.length = ds.length := by
        intro ts
        induction ts with
        | nil => intro ds ρ ρ' e; cases ds <;> simp_all [bindTs]
        | cons t ts ih =>
          intro ds ρ ρ' e
          cases ds with
          | nil => simp [bindTs] at e
          | cons d ds =>
            simp only [bindTs] at e
            split at e
            · rw [List.length_cons, List.length_cons, ih _ _ _ e]
            · cases e
      exact ⟨_, _, rfl, h1, by rw [h2.length, hl]; exact (ln _ _ _ _ e).symm, al, own, ρ, ds, as, ρ', p, h2, z, e, k⟩
  | none => simp [bindT] at e
  | bool _ => simp [bindT] at e
  | int _ => simp [bindT] at e
  | str _ => simp [bindT] at e
  | list _ => simp [bindT] at e
  | dict _ => simp [bindT] at e
/-! ### what is walked -/
def VwN (K : PySem.W.Frag) (H : Hp) (Z N : Addr → Prop) (v : V) (d : PyData) : Prop := (∃ as, Rp K H v d as ∧ ∀ b ∈ as, Z b) ∨ ∃ a, OwV K H Z v d a ∧ N a
def VwNA (K : PySem.W.Frag) (H : Hp) (Z N : Addr → Prop) : List V → List PyData → Prop
  | [], [] => True
  | v :: vs, d :: ds => VwN K H Z N v d ∧ VwNA K H Z N vs ds
  | _, _ => False
theorem VwNA.one {Z N : Addr → Prop} {vs : List V} {d : PyData} (h : VwNA K H Z N vs [d]) : ∃ x, vs = [x] ∧ VwN K H Z N x d := by
  cases vs with
  | nil => exact h.elim
  | cons x vs =>
    cases vs with
    | nil => exact ⟨x, rfl, h.1⟩
    | cons y vs => exact h.2.elim
theorem VwNA.two {Z N : Addr → Prop} {vs : List V} {d e : PyData} (h : VwNA K H Z N vs [d, e]) : ∃ x y, vs = [x, y] ∧ VwN K H Z N x d ∧ VwN K H Z N y e := by
  cases vs with
  | nil => exact h.elim
  | cons x vs => obtain ⟨y, rfl, h2⟩ := VwNA.one h.2; exact ⟨x, y, rfl, h.1, h2⟩
theorem VwN.int {Z N : Addr → Prop} {v : V} {i : Int} (h : VwN K H Z N v (.int i)) : v = .int i := by
  rcases h with ⟨as, r, _⟩ | ⟨a, o, _⟩
  · cases r; rfl
  · obtain ⟨as, r, _⟩ := o.rp; cases r
theorem VwN.str {Z N : Addr → Prop} {v : V} {i : Str} (h : VwN K H Z N v (.str i)) : v = .str i := by
  rcases h with ⟨as, r, _⟩ | ⟨a, o, _⟩
  · cases r; rfl
  · obtain ⟨as, r, _⟩ := o.rp; cases r
def Kept (H : Hp) (N : Addr → Prop) (H2 : Hp) : Prop := ∃ Wd : Addr → Prop, (∀ b o, H b = some o → ¬ Wd b → H2 b = some o) ∧ (∀ b, Wd b → ∃ o, H b = some o ∧ Mut (some o)) ∧ ∀ b, N b → ¬ Wd b
theorem Kept.rd {N : Addr → Prop} {a : Addr} {o : HO} (k : Kept H N H') (h : Rd H a o) (n : N a) : Rd H' a o := let ⟨_, k1, _, k3⟩ := k; Rd.keep k1 h (k3 a n)
theorem VwN.list {Z N : Addr → Prop} {v : V} {ds : List PyData} (hz : ∀ b, Z b → N b) (h : VwN K H Z N v (.list ds)) : ∃ a vs as, v = .ref a ∧ SqL K H a vs ∧ (∀ H2, Kept H N H2 → SqL K H2 a vs) ∧ RpA K H vs ds as ∧ ∀ b ∈ as, Z b := by
  rcases h with ⟨as, r, z⟩ | ⟨a, ⟨e, o⟩, n⟩
  · cases r with
    | lst h1 h2 => exact ⟨_, _, _, rfl, .inl h1, fun H2 k => .inl (k.rd h1 (hz _ (z _ (by simp)))), h2, fun b hb => z b (by simp [hb])⟩
    | lsk h1 h2 => exact ⟨_, _, _, rfl, .inr h1, fun H2 k => .inr h1, h2, z⟩
  · rcases o with ⟨vs, ds', as, e1, h2, h3, h4⟩ | ⟨vs, ds', as, e1, h2, h3, h4⟩
    · cases e1; exact ⟨a, vs, as, e, .inl (.inl h2), fun H2 k => .inl (k.rd (.inl h2) n), h3, h4⟩
    · cases e1
theorem VwN.tuple {Z N : Addr → Prop} {v : V} {ds : List PyData} (h : VwN K H Z N v (.tuple ds)) : ∃ a vs as, v = .ref a ∧ SqT K H a vs ∧ RpA K H vs ds as ∧ ∀ b ∈ as, Z b := by
  rcases h with ⟨as, r, z⟩ | ⟨a, ⟨e, o⟩, n⟩
  · cases r with | tup h1 h2 => exact ⟨_, _, _, rfl, h1, h2, z⟩
  · rcases o with ⟨vs, ds', as, e1, h2, h3, h4⟩ | ⟨vs, ds', as, e1, h2, h3, h4⟩ <;> cases e1
theorem Kept.rpA {N : Addr → Prop} {vs : List V} {ds : List PyData} {as : List Addr} (k : Kept H N H') (r : RpA K H vs ds as) (n : ∀ b ∈ as, N b) : RpA K H' vs ds as := let ⟨_, k1, k2, k3⟩ := k; RpA.keep k1 k2 ds vs as r fun b hb => k3 b (n b hb)
theorem Kept.sqT {N : Addr → Prop} {a : Addr} {vs : List V} (k : Kept H N H') (h : SqT K H a vs) : SqT K H' a vs := by
  obtain ⟨Wd, k1, k2, k3⟩ := k
  rcases h with h | h
  · refine .inl (Rd.keep k1 h fun hw => ?_)
    obtain ⟨o, e, m⟩ := k2 _ hw
    rcases h with h | ⟨x, h⟩ <;> (rw [h] at e; cases e; exact m)
  · exact .inr h
def ItOk (K : PySem.W.Frag) (wi : List V → Hp → (It → Hp → Prop) → Prop) (mk : List PyData → Option (List PyData)) : Prop :=
  ∀ (Z N : Addr → Prop) (H : Hp) (vs : List V) (ds items : List PyData), (∀ b, Z b → N b) → VwNA K H Z N vs ds → mk ds = some items →
    ∃ (J : It) (B : Hp → Prop) (Y : Nat → Hp → V → Hp → Prop), (∀ R : It → Hp → Prop, R J H → wi vs H R) ∧ Walk J items.length B Y ∧ B H ∧ (∀ H2, Kept H N H2 → B H2) ∧
      ∀ i H2 x H3, i < items.length → B H2 → Y i H2 x H3 → Grow H2 H3 ∧ ∃ d as, items[i]? = some d ∧ Rp K H3 x d as ∧ ∀ b ∈ as, Z b
/-- a list -/
def kList : List PyData → Option (List PyData)
  | [.list ds] => some ds
  | _ => none
def wiList (K : PySem.W.Frag) : List V → Hp → (It → Hp → Prop) → Prop := fun vs H R => ∃ x, vs = [x] ∧ ∃ a, x = .ref a ∧ (∃ xs, SqL K H a xs) ∧ R (Itl K a) H
theorem item_of {Z : Addr → Prop} {H2 : Hp} {vs : List V} {ds : List PyData} {as : List Addr} (r : RpA K H2 vs ds as) (z : ∀ b ∈ as, Z b) {i : Nat} {x : V} (hi : i < ds.length) (e : vs[i]? = some x) : ∃ d as, ds[i]? = some d ∧ Rp K H2 x d as ∧ ∀ b ∈ as, Z b := by
  obtain ⟨v, bs, q1, q2, q3⟩ := r.get (List.getElem?_eq_getElem hi)
  rw [e] at q1
  cases q1
  exact ⟨_, bs, List.getElem?_eq_getElem hi, q2, fun b hb => z b (q3 b hb)⟩
theorem it_list : ItOk K (wiList K) kList := by
  intro Z N H vs ds items hz hv h
  unfold kList at h
  split at h
  · cases h
    obtain ⟨x, rfl, hx⟩ := hv.one
    obtain ⟨a, vs, as, rfl, h1, n, r, z⟩ := hx.list hz
    refine ⟨Itl K a, fun H2 => SqL K H2 a vs ∧ RpA K H2 vs items as, YAt vs, fun R q => ⟨_, rfl, a, rfl, ⟨vs, h1⟩, q⟩, ?_, ⟨h1, r⟩, fun H2 k => ⟨n H2 k, k.rpA r fun b hb => hz b (z b hb)⟩, ?_⟩
    · rw [← r.length]; exact walk_list.mono (fun H h => h.1) fun i H x H' _ _ y => y
    · rintro i H2 x H3 hi ⟨g, r2⟩ ⟨rfl, e⟩
      exact ⟨.refl, item_of r2 z hi e⟩
  · cases h
/-- a tuple -/
def kTuple : List PyData → Option (List PyData)
  | [.tuple ds] => some ds
  | _ => none
def wiTup (K : PySem.W.Frag) : List V → Hp → (It → Hp → Prop) → Prop := fun vs H R => ∃ x, vs = [x] ∧ ∃ a, x = .ref a ∧ (∃ xs, SqT K H a xs) ∧ R (Itt K a) H
theorem it_tup : ItOk K (wiTup K) kTuple := by
  intro Z N H vs ds items hz hv h
  unfold kTuple at h
  split at h
  · cases h
    obtain ⟨x, rfl, hx⟩ := hv.one
    obtain ⟨a, vs, as, rfl, h1, r, z⟩ := hx.tuple
    refine ⟨Itt K a, fun H2 => SqT K H2 a vs ∧ RpA K H2 vs items as, YAt vs, fun R q => ⟨_, rfl, a, rfl, ⟨vs, h1⟩, q⟩, ?_, ⟨h1, r⟩, fun H2 k => ⟨k.sqT h1, k.rpA r fun b hb => hz b (z b hb)⟩, ?_⟩
    · rw [← r.length]; exact walk_tup.mono (fun H h => h.1) fun i H x H' _ _ y => y
    · rintro i H2 x H3 hi ⟨g, r2⟩ ⟨rfl, e⟩
      exact ⟨.refl, item_of r2 z hi e⟩
  · cases h
/-- range(n), range(m, n) -/
def rgI (a : Int) (n : Nat) : List PyData := (List.range n).map fun i : Nat => .int (a + (i : Int))
theorem rgI_length (a : Int) (n : Nat) : (rgI a n).length = n := by simp [rgI]
theorem rgI_get {a : Int} {n i : Nat} (h : i < n) : (rgI a n)[i]? = some (.int (a + (i : Int))) := by simp [rgI, h]
def kRange1 : List PyData → Option (List PyData)
  | [.int n] => if -p62 ≤ n ∧ n < p62 then some (rgI 0 n.toNat) else none
  | _ => none
def kRange2 : List PyData → Option (List PyData)
  | [.int m, .int n] => if (-p62 ≤ m ∧ m < p62) ∧ (-p62 ≤ n ∧ n < p62) then some (rgI m (n - m).toNat) else none
  | _ => none
theorem walk_rgI {lo : Int} {n : Nat} : Walk (Itr lo n) (rgI lo n).length (fun _ => True) (YFn fun i => .int (lo + i)) := by rw [rgI_length]; exact walk_range
theorem rgI_item {Z : Addr → Prop} {lo : Int} {n i : Nat} {H2 H3 : Hp} {x : V} (hi : i < (rgI lo n).length) (y : YFn (fun i => V.int (lo + i)) i H2 x H3) : Grow H2 H3 ∧ ∃ d as, (rgI lo n)[i]? = some d ∧ Rp K H3 x d as ∧ ∀ b ∈ as, Z b := by
  obtain ⟨rfl, rfl⟩ := y
  rw [rgI_length] at hi
  exact ⟨.refl, _, [], rgI_get hi, .int _, fun _ z => nomatch z⟩
theorem it_range1 : ItOk K (fun vs H R => ∃ j : Int, vs = [.int j] ∧ -(2 ^ 62) ≤ j ∧ j < 2 ^ 62 ∧ R (Itr 0 j.toNat) H) kRange1 := by
  intro Z N H vs ds items hz hv h
  unfold kRange1 at h
  split at h
  · split at h
    · rename_i n hn
      cases h
      rw [p62_eq] at hn
      obtain ⟨x, rfl, hx⟩ := hv.one
      refine ⟨Itr 0 n.toNat, fun _ => True, _, fun R q => ⟨n, by rw [hx.int], hn.1, hn.2, q⟩, walk_rgI, trivial, fun _ _ => trivial, fun i H2 x H3 hi _ y => rgI_item hi y⟩
    · cases h
  · cases h
theorem it_range2 : ItOk K (fun vs H R => ∃ i j : Int, vs = [.int i, .int j] ∧ (-(2 ^ 62) ≤ i ∧ i < 2 ^ 62 ∧ -(2 ^ 62) ≤ j ∧ j < 2 ^ 62) ∧ R (Itr i (j - i).toNat) H) kRange2 := by
  intro Z N H vs ds items hz hv h
  unfold kRange2 at h
  split at h
  · split at h
    · rename_i m n hn
      cases h
      rw [p62_eq] at hn
      obtain ⟨x, y, rfl, hx, hy⟩ := hv.two
      refine ⟨Itr m (n - m).toNat, fun _ => True, _, fun R q => ⟨m, n, by rw [hx.int, hy.int], ⟨hn.1.1, hn.1.2, hn.2.1, hn.2.2⟩, q⟩, walk_rgI, trivial, fun _ _ => trivial, fun i H2 x H3 hi _ y => rgI_item hi y⟩
    · cases h
  · cases h
/-- enumerate(list) -/
def enumD (ds : List PyData) : List PyData := (List.range ds.length).zipWith (fun (i : Nat) d => .tuple [.int (i : Int), d]) ds
def kEnum : List PyData → Option (List PyData)
  | [.list ds] => some (enumD ds)
  | _ => none
theorem enumD_length (ds : List PyData) : (enumD ds).length = ds.length := by simp [enumD]
theorem enumD_get {ds : List PyData} {i : Nat} {d : PyData} (h : ds[i]? = some d) : (enumD ds)[i]? = some (.tuple [.int (i : Int), d]) := by
  have hi : i < ds.length := (List.getElem?_eq_some_iff.mp h).1
  simp [enumD, List.getElem?_zipWith, hi]
  exact (List.getElem?_eq_some_iff.mp h).2
theorem pair_rp {Z : Addr → Prop} {H2 : Hp} {T : Addr} {x y : V} {d e : PyData} {as bs : List Addr} (hT : H2 T = none) (r1 : Rp K H2 x d as) (z1 : ∀ b ∈ as, Z b) (r2 : Rp K H2 y e bs) (z2 : ∀ b ∈ bs, Z b) :
    Grow H2 (upd H2 T (.tup [x, y])) ∧ ∃ cs, Rp K (upd H2 T (.tup [x, y])) (.ref T) (.tuple [d, e]) cs ∧ ∀ b ∈ cs, Z b := by
  have g : Grow H2 (upd H2 T (.tup [x, y])) := Grow.upd hT
  exact ⟨g, _, .tup (.inl (.inl upd_same)) (.cons (g.rp r1) (.cons (g.rp r2) .nil)), fun b hb => by
    rcases List.mem_append.mp hb with hb | hb
    · exact z1 b hb
    · rw [List.append_nil] at hb; exact z2 b hb⟩
theorem it_enum : ItOk K (fun vs H R => ∃ a xs, vs = [.ref a] ∧ SqL K H a xs ∧ R (Ite K a) H) kEnum := by
  intro Z N H vs ds items hz hv h
  unfold kEnum at h
  split at h
  · rename_i ds'
    cases h
    obtain ⟨x, rfl, hx⟩ := hv.one
    obtain ⟨a, vs, as, rfl, h1, n, r, z⟩ := hx.list hz
    refine ⟨Ite K a, fun H2 => SqL K H2 a vs ∧ RpA K H2 vs ds' as, YPair (fun i => some (.int (i : Nat))) (fun i => vs[i]?), fun R q => ⟨a, vs, rfl, h1, q⟩, ?_, ⟨h1, r⟩, fun H2 k => ⟨n H2 k, k.rpA r fun b hb => hz b (z b hb)⟩, ?_⟩
    · rw [enumD_length, ← r.length]; exact walk_enum.mono (fun H h => h.1) fun i H x H' _ _ y => y
    · rintro i H2 x H3 hi ⟨g, r2⟩ ⟨T, x1, y1, rfl, hT, rfl, e1, e2⟩
      rw [enumD_length] at hi
      cases e1
      obtain ⟨d, bs, q1, q2, q3⟩ := item_of r2 z hi e2
      obtain ⟨g2, cs, q4, q5⟩ := pair_rp (Z := Z) hT (.int (i : Int)) (fun _ z => nomatch z) q2 q3
      exact ⟨g2, _, cs, enumD_get q1, q4, q5⟩
  · cases h
/-! ### a walked list is locked -/
def lock1 (j : Nat) (ρ : Env) : Env := match ρ[j]? with
  | some (some s) => if s.wr = true then ρ.set j (some (.lk s.d)) else ρ
  | _ => ρ
/-- back to what stood in ρ0 -/
def unlk1 (ρ0 : Env) (j : Nat) (ρ : Env) : Env := match ρ0[j]? with
  | some (some s) => if s.wr = true then ρ.set j (some s) else ρ
  | _ => ρ
theorem Pre.lock (p : Pre K al own ρ σ H) (j : Nat) : Pre K al own (lock1 j ρ) σ H := by
  unfold lock1
  split
  · rename_i s e
    split
    · rename_i hw
      refine ⟨p.fr, p.inj, p.mu, by rw [List.length_set]; exact p.len, fun i s' e1 => ?_⟩
      rcases getElem?_set_cases e1 with ⟨rfl, e2, _⟩ | ⟨_, e2⟩
      · cases e2
        obtain ⟨v, h1, h2⟩ := p.sl _ s e
        refine ⟨v, h1, ?_⟩
        cases s with
        | sh d => cases hw
        | lk d => cases hw
        | ex a c => cases hw
        | ow d => obtain ⟨a, q, o, _⟩ := h2; exact ⟨a, q, o⟩
        | io d => exact h2
      · exact p.sl i s' e2
    · exact p
  · exact p
theorem Wr.lock {j : Nat} {b : Addr} (h : Wr own (lock1 j ρ) b) : Wr own ρ b := by
  obtain ⟨i, s, e1, e2, e3⟩ := h
  unfold lock1 at e2
  split at e2
  · split at e2
    · rcases getElem?_set_cases e2 with ⟨_, e4, _⟩ | ⟨_, e4⟩
      · cases e4; cases e3
      · exact ⟨i, s, e1, e4, e3⟩
    · exact ⟨i, s, e1, e2, e3⟩
  · exact ⟨i, s, e1, e2, e3⟩
theorem unlock {al' : Addr → Prop} {j : Nat} (p0 : Pre K al own ρ σ H) (p : Pre K al' own' ρ' σ1 H') (ha : ∀ i b, al b → own' i = some b → al' b) (s : Stp own (lock1 j ρ) H own' ρ' H') : Pre K al' own' (unlk1 ρ j ρ') σ1 H' ∧ Stp own ρ H own' (unlk1 ρ j ρ') H' := by
  unfold unlk1
  cases e : ρ[j]? with
  | none =>
    have el : lock1 j ρ = ρ := by unfold lock1; rw [e]
    rw [el] at s
    exact ⟨p, s⟩
  | some t =>
    cases t with
    | none =>
      have el : lock1 j ρ = ρ := by unfold lock1; rw [e]
      rw [el] at s
      exact ⟨p, s⟩
    | some t =>
      by_cases hw : t.wr = true
      · have el : lock1 j ρ = ρ.set j (some (.lk t.d)) := by unfold lock1; rw [e]; exact if_pos hw
        rw [el] at s
        simp only
        rw [if_pos hw]
        have hj : j < ρ.length := (List.getElem?_eq_some_iff.mp e).1
        obtain ⟨q1, q2⟩ := s.lk j t.d (by rw [List.getElem?_set_self hj])
        have hj' : j < ρ'.length := (List.getElem?_eq_some_iff.mp q1).1
        obtain ⟨v0, _, ok0⟩ := p0.sl j t e
        obtain ⟨v1, h1, a1, e1, o1⟩ := p.sl j _ q1
        refine ⟨⟨p.fr, p.inj, p.mu, by rw [List.length_set]; exact p.len, fun i s' ei => ?_⟩, ⟨fun b o eb w => s.keep b o eb fun ⟨i, x, x1, x2, x3⟩ => ?_, s.dom, s.nw, fun b ⟨i, x, x1, x2, x3⟩ => ?_, fun i d ei => ?_, fun i d ei => ?_, by rw [List.length_set, s.ln, List.length_set]⟩⟩
        · rcases getElem?_set_cases ei with ⟨rfl, e2, _⟩ | ⟨_, e2⟩
          · cases e2
            refine ⟨v1, h1, ?_⟩
            rw [q2] at e1
            cases t with
            | sh d => cases hw
            | lk d => cases hw
            | ex a c => cases hw
            | io d => exact ⟨a1, q2.trans e1, o1⟩
            | ow d =>
              obtain ⟨a3, e0, _, z0⟩ := ok0
              rw [e0] at e1
              cases e1
              exact ⟨_, q2.trans e0, o1, ha _ _ z0 (q2.trans e0)⟩
          · exact p.sl i s' e2
        · rcases getElem?_set_cases x2 with ⟨_, e4, _⟩ | ⟨_, e4⟩
          · cases e4; cases x3
          · exact w ⟨i, x, x1, e4, x3⟩
        · rcases getElem?_set_cases x2 with ⟨rfl, e4, _⟩ | ⟨hi, e4⟩
          · rw [q2] at x1; exact .inl ⟨_, t, x1, e, hw⟩
          · refine (s.fz b ⟨i, x, x1, e4, x3⟩).elim (fun ⟨k, y, y1, y2, y3⟩ => ?_) .inr
            rcases getElem?_set_cases y2 with ⟨_, e5, _⟩ | ⟨_, e5⟩
            · cases e5; cases y3
            · exact .inl ⟨k, y, y1, e5, y3⟩
        · have hi : i ≠ j := fun z => by subst z; rw [e] at ei; cases ei; cases hw
          obtain ⟨r1, r2⟩ := s.lk i d (by rw [List.getElem?_set_ne (Ne.symm hi)]; exact ei)
          exact ⟨by rw [List.getElem?_set_ne (Ne.symm hi)]; exact r1, r2⟩
        · by_cases hi : i = j
          · subst hi
            rw [e] at ei
            cases ei
            exact ⟨⟨d, by rw [List.getElem?_set_self hj']⟩, q2⟩
          · obtain ⟨⟨d', r1⟩, r2⟩ := s.io i d (by rw [List.getElem?_set_ne (Ne.symm hi)]; exact ei)
            exact ⟨⟨d', by rw [List.getElem?_set_ne (Ne.symm hi)]; exact r1⟩, r2⟩
      · have el : lock1 j ρ = ρ := by unfold lock1; rw [e]; exact if_neg hw
        rw [el] at s
        simp only
        rw [if_neg hw]
        exact ⟨p, s⟩
end
end
end Ev
set_option Elab.async false
set_option linter.all false
set_option autoImplicit false
set_option maxRecDepth 100000
/-! Ev9: for. -/
namespace Ev
open PySem PySem.Spec L2
open PyProof.Rows hiding St
noncomputable section
def Arg.lk (ρ : Env) : Arg → Env
  | .pl j => lock1 j ρ
  | .sh _ => ρ
def Arg.un (ρ0 : Env) : Arg → Env → Env
  | .pl j, ρ => unlk1 ρ0 j ρ
  | .sh _, ρ => ρ
/-- all operands locked, one by one -/
def lks : List Arg → Env → Env
  | [], ρ => ρ
  | a :: as, ρ => lks as (a.lk ρ)
def uns : List Arg → Env → Env → Env
  | [], _, ρ => ρ
  | a :: as, ρ0, ρ => a.un ρ0 (uns as (a.lk ρ0) ρ)
def OutS.on (f : Env → Env) : OutS → OutS
  | .next ρ => .next (f ρ)
  | .ret r ρ => .ret r (f ρ)
  | .brk ρ => .brk (f ρ)
  | .cont ρ => .cont (f ρ)
  | .exc c ρ => .exc c (f ρ)
  | .stuck => .stuck
def forGo (t : Tg) (body : EvS) : List PyData → EvS
  | [], ρ => .next ρ
  | d :: ds, ρ => match bindT t d ρ with
    | none => .stuck
    | some ρ1 => match body ρ1 with
      | .next ρ2 => forGo t body ds ρ2
      | .cont ρ2 => forGo t body ds ρ2
      | .brk ρ2 => .next ρ2
      | .ret r ρ2 => .ret r ρ2
      | .exc c ρ2 => .exc c ρ2
      | .stuck => .stuck
def evFor (os : List Opd) (mk : List PyData → Option (List PyData)) (t : Tg) (body : EvS) : EvS := fun ρ => match evOs os ρ with
  | .ok as ρ1 => (match looks ρ1 as with
    | some ds => (match mk ds with
      | some items => (forGo t body items (lks as ρ1)).on (uns as ρ1)
      | none => .stuck)
    | none => .stuck)
  | .exc c ρ1 => .exc c ρ1
  | .stuck => .stuck
section
variable {K : PySem.W.Frag} {W : WX} {al al' : Addr → Prop} {own own' own1 : Own} {ρ ρ' ρ1 : Env} {σ σ1 : St} {H H' H1 : Hp} {X : Cx} {pos : Pos} {D : Ends}
theorem Pre.lks (p : Pre K al own ρ σ H) (as : List Arg) : Pre K al own (lks as ρ) σ H := by
  induction as generalizing ρ with
  | nil => exact p
  | cons a as ih =>
    cases a with
    | pl j => exact ih (p.lock j)
    | sh d => exact ih p
theorem unlocks {as : List Arg} (p0 : Pre K al own ρ σ H) (p : Pre K al' own' ρ' σ1 H') (ha : ∀ i b, al b → own' i = some b → al' b) (s : Stp own (lks as ρ) H own' ρ' H') : Pre K al' own' (uns as ρ ρ') σ1 H' ∧ Stp own ρ H own' (uns as ρ ρ') H' := by
  induction as generalizing ρ with
  | nil => exact ⟨p, s⟩
  | cons a as ih =>
    cases a with
    | pl j =>
      obtain ⟨p2, s2⟩ := ih (p0.lock j) s
      exact unlock p0 p2 ha s2
    | sh d => exact ih p0 s
theorem Wr.lks {as : List Arg} {b : Addr} (h : Wr own (lks as ρ) b) : Wr own ρ b := by
  induction as generalizing ρ with
  | nil => exact h
  | cons a as ih =>
    cases a with
    | pl j => exact (ih h).lock
    | sh d => exact ih h
/-- what is locked may not be changed -/
theorem lock_nw {j : Nat} {a : Addr} (p : Pre K al own ρ σ H) (e : own j = some a) : ¬ Wr own (lock1 j ρ) a := by
  rintro ⟨i, s, e1, e2, e3⟩
  have ij : i = j := p.inj _ _ _ e1 e
  subst ij
  unfold lock1 at e2
  split at e2
  · rename_i t et
    split at e2
    · rcases getElem?_set_cases e2 with ⟨_, e4, _⟩ | ⟨h, _⟩
      · cases e4; cases e3
      · exact h rfl
    · rename_i hw
      rw [et] at e2
      cases e2
      exact hw e3
  · rename_i h
    exact h _ e2
theorem lks_nw {as : List Arg} {j : Nat} {a : Addr} (p : Pre K al own ρ σ H) (e : own j = some a) (hj : .pl j ∈ as) : ¬ Wr own (lks as ρ) a := by
  induction as generalizing ρ with
  | nil => cases hj
  | cons x as ih =>
    rcases List.mem_cons.mp hj with h | h
    · subst h
      intro w
      exact lock_nw p e (Wr.lks w)
    · cases x with
      | pl k => exact ih (p.lock k) h
      | sh d => exact ih p h
theorem OwV.there {Z : Addr → Prop} {v : V} {d : PyData} {a : Addr} (h : OwV K H Z v d a) : OwV K H (fun b => Z b ∧ H b ≠ none) v d a := by
  obtain ⟨e, ⟨vs, ds, as, h1, h2, h3, h4⟩ | ⟨vs, ds, as, h1, h2, h3, h4⟩⟩ := h
  · exact ⟨e, .inl ⟨vs, ds, as, h1, h2, h3, fun b hb => ⟨h4 b hb, RpA.there _ _ _ h3 b hb⟩⟩⟩
  · exact ⟨e, .inr ⟨vs, ds, as, h1, h2, h3, fun b hb => ⟨h4 b hb, RpK.there _ _ _ h3 b hb⟩⟩⟩
theorem ArgsOk.walk (p : Pre K al own ρ σ H) {all : List Arg} : ∀ {as : List Arg} {vs : List V} {ds : List PyData}, (∀ x ∈ as, x ∈ all) → ArgsOk K H al own σ as vs → Ev.looks ρ as = some ds → VwNA K H (fun b => Zf al own b ∧ H b ≠ none) (fun b => ¬ Wr own (lks all ρ) b) vs ds
  | [], [], ds, _, _, h => by simp [Ev.looks] at h; subst h; trivial
  | [], _ :: _, _, _, h, _ => h.elim
  | _ :: _, [], _, _, h, _ => h.elim
  | a :: as, v :: vs, ds, ha, ⟨h1, h2⟩, h => by
    simp only [Ev.looks] at h
    cases e : look ρ a with
    | none => simp [e] at h
    | some d =>
      cases q : Ev.looks ρ as with
      | none => simp [e, q] at h
      | some ds' =>
        simp [e, q] at h
        subst h
        refine ⟨?_, ArgsOk.walk p (fun x hx => ha x (by simp [hx])) h2 q⟩
        have sh : ∀ {d : PyData}, (∃ as, Rp K H v d as ∧ ∀ b ∈ as, Zf al own b) → VwN K H (fun b => Zf al own b ∧ H b ≠ none) (fun b => ¬ Wr own (lks all ρ) b) v d := fun ⟨as, r, z⟩ => .inl ⟨as, r, fun b hb => ⟨z b hb, Rp.there _ _ _ r b hb⟩⟩
        cases a with
        | sh d' => simp [look] at e; subst e; exact sh h1
        | pl i =>
          have hi : Arg.pl i ∈ all := ha _ (by simp)
          simp only [look] at e
          cases x : ρ[i]? with
          | none => simp [x] at e
          | some s =>
            cases s with
            | none => simp [x] at e
            | some s =>
              obtain ⟨v', e1, ok⟩ := p.sl i s x
              rw [show σ[i]? = some (some v) from h1] at e1
              cases e1
              cases s with
              | sh d => simp [x] at e; subst e; exact sh ok
              | ow d => simp [x] at e; subst e; obtain ⟨a, e2, o, _⟩ := ok; exact .inr ⟨a, o.there, lks_nw p e2 hi⟩
              | io d => simp [x] at e; subst e; obtain ⟨a, e2, o⟩ := ok; exact .inr ⟨a, o.there, lks_nw p e2 hi⟩
              | lk d => simp [x] at e; subst e; obtain ⟨a, e2, o⟩ := ok; exact .inr ⟨a, o.there, lks_nw p e2 hi⟩
              | ex a c => simp [x] at e
theorem OkS.on {as : List Arg} {D : Ends} {o : OutS} (p0 : Pre K al own ρ σ H) (h : OkS K W al own ρ H D (o.on (uns as ρ))) : OkS K W al own (lks as ρ) H D o := by
  cases o with
  | next r => exact fun σ' H' own' p s => let ⟨p2, s2⟩ := unlocks p0 p (fun _ _ h _ => h) s; h σ' H' own' p2 s2
  | brk r => exact fun σ' H' own' p s => let ⟨p2, s2⟩ := unlocks p0 p (fun _ _ h _ => h) s; h σ' H' own' p2 s2
  | cont r => exact fun σ' H' own' p s => let ⟨p2, s2⟩ := unlocks p0 p (fun _ _ h _ => h) s; h σ' H' own' p2 s2
  | exc c r => exact fun σ' H' own' p s => let ⟨p2, s2⟩ := unlocks p0 p (fun _ _ h _ => h) s; h σ' H' own' p2 s2
  | stuck => exact h
  | ret r ρ' =>
    cases r with
    | sh d => exact fun v σ' H' own' bs p s => let ⟨p2, s2⟩ := unlocks p0 p (fun _ _ h _ => h) s; h v σ' H' own' bs p2 s2
    | ow d => exact fun v σ' H' own' a p s o ha hf hw => let ⟨p2, s2⟩ := unlocks p0 p (fun i b h e => ⟨h, fun z => hf i (z ▸ e)⟩) s; h v σ' H' own' a p2 s2 o ha hf (hw.imp id Wr.lks)
theorem Stp.kept (p : Pre K al own ρ σ H) (s : Stp own ρ H own' ρ' H') : Kept H (fun b => ¬ Wr own ρ b) H' := ⟨Wr own ρ, s.keep, p.wrM, fun _ h => h⟩
theorem semFor {wi : List V → Hp → (It → Hp → Prop) → Prop} {mk : List PyData → Option (List PyData)} (it : ItOk K wi mk) {os : List Opd} {t : Tg} {body : EvS} (h : SemS K W (evFor os mk t body) D σ H) :
    SemOs K W os σ H fun vs H1 => wi vs H1 fun J H1 => ∃ W' : Nat → Nat → St → Hp → Prop, (∃ m, W' 0 m σ H1) ∧ ∀ i m σ H, W' i m σ H →
      (J.stop i H ∧ D.nx σ H) ∨ (J.go i H ∧ ∃ N : St → Hp → Prop, (∀ σ' H', N σ' H' → ∃ m', m' < m ∧ W' (i + 1) m' σ' H') ∧ ∀ x H', J.yld i H x H' → SemG K t x σ H' fun σ2 H2 => SemS K W body { D with nx := N, ct := N, bk := D.nx } σ2 H2) := by
  obtain ⟨al, own, ρ, p, h⟩ := h
  refine ⟨al, own, ρ, p, ?_⟩
  simp only [evFor] at h
  cases e : evOs os ρ with
  | stuck => simp only [e] at h; exact h
  | exc c ρ1 => simp only [e] at h ⊢; exact fun H' own' => h σ H' own'
  | ok as ρ1 =>
    simp only [e] at h ⊢
    intro vs H1 own1 p1 s1 ao
    cases e2 : looks ρ1 as with
    | none => simp only [e2] at h; exact h.elim
    | some ds =>
      simp only [e2] at h
      cases e3 : mk ds with
      | none => simp only [e3] at h; exact h.elim
      | some items =>
        simp only [e3] at h
        have h := OkS.on p1 (h.after s1)
        have pl := p1.lks as
        obtain ⟨J, B, Y, c1, c2, c3, c4, c5⟩ := it (fun b => Zf al own1 b ∧ H1 b ≠ none) (fun b => ¬ Wr own1 (lks as ρ1) b) H1 vs ds items (fun b z => z.1.2.wr) (ao.walk p1 (fun _ z => z) e2) e3
        refine c1 _ (for_it c2 (fun i σ2 H2 => ∃ own2 ρ2, Pre K al own2 ρ2 σ2 H2 ∧ Stp own1 (lks as ρ1) H1 own2 ρ2 H2 ∧ OkS K W al own2 ρ2 H2 D (forGo t body (items.drop i) ρ2)) ⟨own1, _, pl, .refl, by rw [List.drop_zero]; exact h⟩ (fun i σ2 H2 _ ⟨own2, ρ2, p2, s2, _⟩ => c4 H2 (s2.kept pl)) (fun i x σ2 H2 H3 hi ⟨own2, ρ2, p2, s2, q⟩ y => ?_) (fun σ2 H2 ⟨own2, ρ2, p2, s2, q⟩ => ?_))
        · obtain ⟨g, d, bs, r1, r2, r3⟩ := c5 i H2 x H3 hi (c4 H2 (s2.kept pl)) y
          have ed : items.drop i = d :: items.drop (i + 1) := by
            obtain ⟨_, r1'⟩ := List.getElem?_eq_some_iff.mp r1
            rw [← r1', List.getElem_cons_drop]
          rw [ed] at q
          simp only [forGo] at q
          have p3 := p2.grow g
          have z3 : ∀ b ∈ bs, Zf al own2 b := fun b hb => ⟨(r3 b hb).1.1, fun j q1 => (s2.nw j b q1).elim (fun ⟨k, q2⟩ => (r3 b hb).1.2 k q2) (r3 b hb).2⟩
          cases eb : bindT t d ρ2 with
          | none => simp only [eb] at q; exact q.elim
          | some ρ3 =>
            simp only [eb] at q
            refine ⟨al, own2, ρ2, d, bs, ρ3, p3, r2, z3, eb, fun σ4 own4 p4 s4 _ => ⟨al, own4, ρ3, p4, ?_⟩⟩
            have s5 := g.stp (own := own2) (ρ := ρ2) |>.trans s4
            cases ez : body ρ3 with
            | next ρ5 => simp only [ez] at q; exact fun σ6 H6 own6 p6 s6 => ⟨own6, ρ5, p6, s2.trans (s5.trans s6), q.after (s5.trans s6)⟩
            | cont ρ5 => simp only [ez] at q; exact fun σ6 H6 own6 p6 s6 => ⟨own6, ρ5, p6, s2.trans (s5.trans s6), q.after (s5.trans s6)⟩
            | brk ρ5 => simp only [ez] at q; exact OkS.after (o := .next ρ5) s5 q
            | ret r ρ5 => simp only [ez] at q; exact OkS.after (o := .ret r ρ5) s5 q
            | exc c ρ5 => simp only [ez] at q; exact OkS.after (o := .exc c ρ5) s5 q
            | stuck => simp only [ez] at q; exact q.elim
        · rw [List.drop_length] at q
          exact q σ2 H2 own2 p2 .refl
/-! the statements -/
variable {tg iter a b : Expr} {body : List Stmt} {t : Tg} {fb : EvS} {o o2 : Opd}
theorem SemO.wi {o : Opd} {R : List V → Hp → Prop} (h : SemOs K W [o] σ H R) : SemO K W o σ H fun x H1 => R [x] H1 := sem1 h
theorem s_forL (hp : PassesOwn (model X.prog X.w) X.A X.env X.xe) (hc : X.calm = true) (hi : PE X iter (SemO X.K W o)) (hg : PG X tg (SemG X.K t)) (hb : PSs X body (SemS X.K W fb)) (hs : ∀ x, foldedSetIterable iter X.env x = pure x := by intro _; rfl) :
    PS X (.For tg iter body [] pos) (SemS X.K W (evFor [o] kList t fb)) := PS.imp (ps_for hp hc (pi_list hi) hg hb hs) fun D σ H h => SemO.mono (sem1 (semFor it_list h)) fun v H1 ⟨x, e, a, e2, q⟩ => by cases e; exact ⟨a, e2, q⟩
theorem s_forT (hp : PassesOwn (model X.prog X.w) X.A X.env X.xe) (hc : X.calm = true) (hi : PE X iter (SemO X.K W o)) (hg : PG X tg (SemG X.K t)) (hb : PSs X body (SemS X.K W fb)) (hs : ∀ x, foldedSetIterable iter X.env x = pure x := by intro _; rfl) :
    PS X (.For tg iter body [] pos) (SemS X.K W (evFor [o] kTuple t fb)) := PS.imp (ps_for hp hc (pi_tup hi) hg hb hs) fun D σ H h => SemO.mono (sem1 (semFor it_tup h)) fun v H1 ⟨x, e, a, e2, q⟩ => by cases e; exact ⟨a, e2, q⟩
theorem s_forR1 {p p2 : Pos} (hp : PassesOwn (model X.prog X.w) X.A X.env X.xe) (hc : X.calm = true) (hgl : Gl X "range") (hm : X.mg "range" = none) (hi : PA X [a] (SemOs X.K W [o])) (hg : PG X tg (SemG X.K t)) (hb : PSs X body (SemS X.K W fb)) (ha : starEach [a] X.env = [(false, eval a X.env)] := by rfl) :
    PS X (.For tg (.Call (.Name "range" p) [a] [] p2) body [] pos) (SemS X.K W (evFor [o] kRange1 t fb)) := PS.imp (ps_for hp hc (pi_range1 hgl hm hi ha) hg hb) fun D σ H h => semFor it_range1 h
theorem s_forR2 {p p2 : Pos} (hp : PassesOwn (model X.prog X.w) X.A X.env X.xe) (hc : X.calm = true) (hgl : Gl X "range") (hm : X.mg "range" = none) (hi : PA X [a, b] (SemOs X.K W [o, o2])) (hg : PG X tg (SemG X.K t)) (hb : PSs X body (SemS X.K W fb)) (ha : starEach [a, b] X.env = [(false, eval a X.env), (false, eval b X.env)] := by rfl) (hs2 : starEach [b] X.env = [(false, eval b X.env)] := by rfl) :
    PS X (.For tg (.Call (.Name "range" p) [a, b] [] p2) body [] pos) (SemS X.K W (evFor [o, o2] kRange2 t fb)) := PS.imp (ps_for hp hc (pi_range2 hgl hm hi ha hs2) hg hb) fun D σ H h => semFor it_range2 h
theorem s_forE {p p2 tpos : Pos} {elts : List Expr} {kk : Nat} (hp : PassesOwn (model X.prog X.w) X.A X.env X.xe) (hc : X.calm = true) (hgl : Gl X "enumerate") (hm : X.mg "enumerate" = none) (hi : PA X [a] (SemOs X.K W [o])) (hg : PG X (.Tuple elts kk tpos) (SemG X.K t)) (hb : PSs X body (SemS X.K W fb)) (ha : starEach [a] X.env = [(false, eval a X.env)] := by rfl) :
    PS X (.For (.Tuple elts kk tpos) (.Call (.Name "enumerate" p) [a] [] p2) body [] pos) (SemS X.K W (evFor [o] kEnum t fb)) := PS.imp (ps_for hp hc (pi_enum hgl hm hi ha) hg hb) fun D σ H h => semFor it_enum h
end
end
end Ev
set_option Elab.async false
set_option linter.all false
set_option autoImplicit false
set_option maxRecDepth 100000
/-! Ev10: list comprehensions. -/
namespace Ev
open PySem PySem.Spec L2
open PyProof.Rows hiding St
noncomputable section
def wipeE (ρ : Env) : List Nat → Env
  | [] => ρ
  | v :: vs => (wipeE ρ vs).set v none
def keepSh : Option (Option Sl) → Option Sl
  | some (some (.sh d)) => some (.sh d)
  | _ => none
/-- the comprehension's own slots as they were ahead of it, if nobody changes them -/
def restE (ρ0 ρ : Env) : List Nat → Env
  | [] => ρ
  | v :: vs => (restE ρ0 ρ vs).set v (keepSh ρ0[v]?)
def calmB (ρ : Env) (vs : List Nat) : Bool := vs.all fun i => match ρ[i]? with
  | some (some (.sh _)) => true
  | some (some _) => false
  | _ => true
def lcGo (t : Tg) (vs : List Nat) (tt : Tv) (te : Ev) : List PyData → List PyData → Env → Out (List PyData)
  | [], acc, ρ => .ok acc ρ
  | d :: ds, acc, ρ => match bindT t d ρ with
    | none => .stuck
    | some ρ1 => match tt ρ1 with
      | .ok true ρ2 => (match te ρ2 with
        | .ok r ρ3 => lcGo t vs tt te ds (acc ++ [r.d]) (wipeE ρ3 vs)
        | _ => .stuck)
      | .ok false ρ2 => lcGo t vs tt te ds acc (wipeE ρ2 vs)
      | _ => .stuck
def evLc (os : List Opd) (mk : List PyData → Option (List PyData)) (t : Tg) (vs : List Nat) (tt : Tv) (te : Ev) : Ev := fun ρ => match evOs os ρ with
  | .ok as ρ1 => (match looks ρ1 as with
    | some ds => (match mk ds with
      | some items => if calmB ρ1 vs = true ∧ items.length ≤ lineN then (match lcGo t vs tt te items [] (wipeE (lks as ρ1) vs) with
        | .ok acc ρ2 => .ok (.ow (.list acc)) (restE ρ1 (uns as ρ1 ρ2) vs)
        | _ => .stuck) else .stuck
      | none => .stuck)
    | none => .stuck)
  | .exc c ρ1 => .exc c ρ1
  | .stuck => .stuck
def WF : WX := fun _ _ _ _ => False
section
variable {K : PySem.W.Frag} {W : WX} {al al' : Addr → Prop} {own own' own1 own0 : Own} {ρ ρ' ρ1 ρ0 : Env} {σ σ1 σ' : St} {H H' H1 H0 : Hp} {X : Cx} {pos : Pos} {vs : List Nat} {D : Addr}
theorem wipeE_length : ∀ (ρ : Env) (vs : List Nat), (wipeE ρ vs).length = ρ.length
  | _, [] => rfl
  | ρ, v :: vs => by unfold wipeE; rw [List.length_set, wipeE_length ρ vs]
theorem restE_length : ∀ (ρ0 ρ : Env) (vs : List Nat), (restE ρ0 ρ vs).length = ρ.length
  | _, _, [] => rfl
  | ρ0, ρ, v :: vs => by unfold restE; rw [List.length_set, restE_length ρ0 ρ vs]
theorem wipeE_some {i : Nat} {s : Sl} : ∀ {vs : List Nat}, (wipeE ρ vs)[i]? = some (some s) → ρ[i]? = some (some s) ∧ i ∉ vs
  | [], h => ⟨h, by simp⟩
  | v :: vs, h => by
    unfold wipeE at h
    rcases getElem?_set_cases h with ⟨_, e, _⟩ | ⟨hn, e⟩
    · cases e
    · obtain ⟨h1, h2⟩ := wipeE_some e
      exact ⟨h1, by simp [hn, h2]⟩
theorem wipeE_out {i : Nat} : ∀ {vs : List Nat}, i ∉ vs → (wipeE ρ vs)[i]? = ρ[i]?
  | [], _ => rfl
  | v :: vs, h => by
    simp only [List.mem_cons, not_or] at h
    unfold wipeE
    rw [List.getElem?_set_ne (Ne.symm h.1), wipeE_out h.2]
theorem restE_some {i : Nat} {s : Sl} : ∀ {vs : List Nat}, (restE ρ0 ρ vs)[i]? = some (some s) → (∃ d, s = .sh d ∧ ρ0[i]? = some (some (.sh d))) ∨ (ρ[i]? = some (some s) ∧ i ∉ vs)
  | [], h => .inr ⟨h, by simp⟩
  | v :: vs, h => by
    unfold restE at h
    rcases getElem?_set_cases h with ⟨rfl, e, _⟩ | ⟨hn, e⟩
    · have e := e.symm
      unfold keepSh at e
      split at e
      · rename_i d hd
        cases e
        exact .inl ⟨d, rfl, hd⟩
      · cases e
    · rcases restE_some e with h1 | ⟨h1, h2⟩
      · exact .inl h1
      · exact .inr ⟨h1, by simp [hn, h2]⟩
theorem restE_out {i : Nat} : ∀ {vs : List Nat}, i ∉ vs → (restE ρ0 ρ vs)[i]? = ρ[i]?
  | [], _ => rfl
  | v :: vs, h => by
    simp only [List.mem_cons, not_or] at h
    unfold restE
    rw [List.getElem?_set_ne (Ne.symm h.1), restE_out h.2]
theorem wipe_eq {is : List Nat} (a : Agr is (wipe σ vs) σ') (hs : ∀ i ∈ is, i ∈ vs) (hl : σ'.length = σ.length) : wipe σ' vs = wipe σ vs := by
  have inn : ∀ (τ : St) (vs : List Nat) (i : Nat), i ∈ vs → (wipe τ vs)[i]? = if i < τ.length then some none else none := by
    intro τ vs
    induction vs with
    | nil => intro i h; cases h
    | cons v vs ih =>
      intro i h
      unfold wipe
      by_cases e : v = i
      · subst e
        rw [List.getElem?_set, if_pos rfl, wipe_length]
      · rw [List.getElem?_set_ne e]
        rcases List.mem_cons.mp h with h | h
        · exact (e h.symm).elim
        · exact ih i h
  apply List.ext_getElem?
  intro i
  by_cases h : i ∈ vs
  · rw [inn _ _ _ h, inn _ _ _ h, hl]
  · have a := a i fun z => h (hs i z)
    rw [wipe_out h, a]
theorem Pre.wipe (p : Pre K al own ρ σ H) (vs : List Nat) : Pre K al own (wipeE ρ vs) (wipe σ vs) H := ⟨p.fr, p.inj, p.mu, by rw [wipeE_length, wipe_length]; exact p.len, fun i s e => by
  obtain ⟨e1, hn⟩ := wipeE_some e
  obtain ⟨v, h1, h2⟩ := p.sl i s e1
  exact ⟨v, by rw [wipe_out hn]; exact h1, h2⟩⟩
/-- at vs nothing but what nobody changes -/
def CalmE (ρ : Env) (vs : List Nat) : Prop := ∀ i ∈ vs, ∀ s, ρ[i]? = some (some s) → ∃ d, s = .sh d
theorem calmB_ok (h : calmB ρ vs = true) : CalmE ρ vs := by
  intro i hi s e
  have h := List.all_eq_true.mp h i hi
  rw [e] at h
  cases s with
  | sh d => exact ⟨d, rfl⟩
  | ow d => cases h
  | io d => cases h
  | lk d => cases h
  | ex a c => cases h
theorem CalmE.lock (h : CalmE ρ vs) (j : Nat) : CalmE (lock1 j ρ) vs := by
  unfold lock1
  split
  · rename_i t et
    split
    · rename_i hw
      intro i hi s e
      rcases getElem?_set_cases e with ⟨rfl, _, _⟩ | ⟨_, e2⟩
      · obtain ⟨d, rfl⟩ := h _ hi t et
        cases hw
      · exact h i hi s e2
    · exact h
  · exact h
theorem CalmE.lks (h : CalmE ρ vs) (as : List Arg) : CalmE (lks as ρ) vs := by
  induction as generalizing ρ with
  | nil => exact h
  | cons a as ih =>
    cases a with
    | pl j => exact ih (h.lock j)
    | sh d => exact ih h
theorem Stp.wipe (s : Stp own ρ H own' ρ' H') (c : CalmE ρ vs) : Stp own ρ H own' (wipeE ρ' vs) H' where
  keep := s.keep
  dom := s.dom
  nw := s.nw
  fz := fun b ⟨i, x, e1, e2, e3⟩ => s.fz b ⟨i, x, e1, (wipeE_some e2).1, e3⟩
  lk := fun i d e => by
    have hi : i ∉ vs := fun h => by obtain ⟨_, z⟩ := c i h _ e; cases z
    obtain ⟨q1, q2⟩ := s.lk i d e
    exact ⟨by rw [wipeE_out hi]; exact q1, q2⟩
  io := fun i d e => by
    have hi : i ∉ vs := fun h => by obtain ⟨_, z⟩ := c i h _ e; cases z
    obtain ⟨⟨d', q1⟩, q2⟩ := s.io i d e
    exact ⟨⟨d', by rw [wipeE_out hi]; exact q1⟩, q2⟩
  ln := by rw [wipeE_length]; exact s.ln
theorem Stp.rest (s : Stp own ρ H own' ρ' H') (c : CalmE ρ vs) : Stp own ρ H own' (restE ρ0 ρ' vs) H' where
  keep := s.keep
  dom := s.dom
  nw := s.nw
  fz := fun b ⟨i, x, e1, e2, e3⟩ => by
    rcases restE_some e2 with ⟨d, rfl, _⟩ | ⟨e4, _⟩
    · cases e3
    · exact s.fz b ⟨i, x, e1, e4, e3⟩
  lk := fun i d e => by
    have hi : i ∉ vs := fun h => by obtain ⟨_, z⟩ := c i h _ e; cases z
    obtain ⟨q1, q2⟩ := s.lk i d e
    exact ⟨by rw [restE_out hi]; exact q1, q2⟩
  io := fun i d e => by
    have hi : i ∉ vs := fun h => by obtain ⟨_, z⟩ := c i h _ e; cases z
    obtain ⟨⟨d', q1⟩, q2⟩ := s.io i d e
    exact ⟨⟨d', by rw [restE_out hi]; exact q1⟩, q2⟩
  ln := by rw [restE_length]; exact s.ln
theorem Pre.rest (p0 : Pre K al own ρ σ H) (s : Stp own ρ H own' ρ' H') (p : Pre K (fun b => al b ∧ b ≠ D) own' ρ' (L2.wipe σ vs) H') (hD : H D = none) : Pre K (fun b => al b ∧ b ≠ D) own' (restE ρ ρ' vs) σ H' := ⟨p.fr, p.inj, p.mu, by rw [restE_length, p.len, wipe_length], fun i x e => by
  rcases restE_some e with ⟨d, rfl, e1⟩ | ⟨e1, _⟩
  · obtain ⟨v, h1, as, r, z⟩ := p0.sl i _ e1
    obtain ⟨r', z'⟩ := s.rp p0 r z
    exact ⟨v, h1, as, r', fun b hb => ⟨⟨(z' b hb).1, fun q => Rp.there _ _ _ r b hb (q ▸ hD)⟩, (z' b hb).2⟩⟩
  · obtain ⟨v, h1, h2⟩ := p.sl i x e1
    exact ⟨v, (wipe_some h1).1, h2⟩⟩
/-! a list beside everything -/
theorem SlOk.upd {o o' : HO} (hD : H D = some o) (hm : Mut (some o)) (ha : ¬ al D) (hf : Free own D) {i : Nat} {s : Sl} {v : V} (h : SlOk K H al own i s v) : SlOk K (upd H D o') al own i s v := by
  have ne : ∀ b, Zf al own b → b ≠ D := fun b z e => ha (e ▸ z.1)
  have nx : ∀ {a : Addr}, own i = some a → a ≠ D := fun {a} e q => hf i (q ▸ e)
  cases s with
  | sh d => obtain ⟨as, r, z⟩ := h; exact ⟨as, upd_rp hD hm r fun b hb => ne b (z b hb), z⟩
  | ow d => obtain ⟨a, e, o, z⟩ := h; exact ⟨a, e, o.upd_other hD hm (nx e) ne, z⟩
  | io d => obtain ⟨a, e, o⟩ := h; exact ⟨a, e, o.upd_other hD hm (nx e) ne⟩
  | lk d => obtain ⟨a, e, o⟩ := h; exact ⟨a, e, o.upd_other hD hm (nx e) ne⟩
  | ex a c => exact h
theorem Pre.out {o o' : HO} (p : Pre K al own ρ σ H) (hD : H D = some o) (hm : Mut (some o)) (ha : ¬ al D) (hf : Free own D) : Pre K al own ρ σ (upd H D o') where
  fr := fun b e => by
    by_cases hb : b = D
    · rw [hb, upd_same] at e; cases e
    · rw [upd_ne hb] at e; exact p.fr b e
  inj := p.inj
  mu := fun i a e => by
    have ne : a ≠ D := fun q => hf i (q ▸ e)
    rw [upd_ne ne]; exact p.mu i a e
  len := p.len
  sl := fun i s e => let ⟨v, h1, h2⟩ := p.sl i s e; ⟨v, h1, h2.upd hD hm ha hf⟩
theorem Stp.out {o' : HO} (s : Stp own ρ H own' ρ' H') (hn : H D = none) (hD : H' D ≠ none) : Stp own ρ H own' ρ' (upd H' D o') where
  keep := fun b o e w => by rw [upd_ne (fun q => by rw [q, hn] at e; cases e)]; exact s.keep b o e w
  dom := fun b e => by
    by_cases hb : b = D
    · rw [hb]; exact hn
    · rw [upd_ne hb] at e; exact s.dom b e
  nw := s.nw
  fz := s.fz
  lk := s.lk
  io := s.io
  ln := s.ln
theorem Free.after (f : Free own D) (hD : H D ≠ none) (s : Stp own ρ H own' ρ' H') : Free own' D := fun i e => (s.nw i D e).elim (fun ⟨j, q⟩ => f j q) hD
theorem Stp.rpA (s : Stp own ρ H own' ρ' H') (p : Pre K al own ρ σ H) {v : List V} {d : List PyData} {as : List Addr} (r : RpA K H v d as) (z : ∀ b ∈ as, Zf al own b) : RpA K H' v d as ∧ ∀ b ∈ as, Zf al own' b := by
  refine ⟨RpA.keep (W := Wr own ρ) s.keep p.wrM d v as r fun b hb => (z b hb).2.wr, fun b hb => ⟨(z b hb).1, fun i e => ?_⟩⟩
  rcases s.nw i b e with q | q
  · obtain ⟨j, q⟩ := q; exact (z b hb).2 j q
  · exact RpA.there d v as r b hb q
theorem semLc {wi : List V → Hp → (It → Hp → Prop) → Prop} {mk : List PyData → Option (List PyData)} (it : ItOk K wi mk) {os : List Opd} {t : Tg} {tt : Tv} {te : Ev} {Q : VK} (hvs : ∀ i ∈ t.ixs, i ∈ vs) (h : SemE K W (evLc os mk t vs tt te) σ H Q) :
    SemOs K W os σ H fun xs H1 => wi xs H1 fun J H1 => ∀ D, H1 D = none → ∃ W' : Nat → Nat → Hp → Prop, (∃ m, W' 0 m (upd H1 D (.lst []))) ∧ ∀ i m H, W' i m H →
      (J.stop i H ∧ Q (.ref D) H) ∨ (J.go i H ∧ ∃ Nx : Hp → Prop, (∀ H', Nx H' → ∃ m', m' < m ∧ W' (i + 1) m' H') ∧ ∀ x H', J.yld i H x H' → SemG K t x (wipe σ vs) H' fun σ2 H2 => wipe σ2 vs = wipe σ vs ∧ SemT K WF tt σ2 H2 fun b H3 =>
        if b = true then SemE K WF te σ2 H3 fun y H4 => ∃ acc, H4 D = some (.lst acc) ∧ acc.length < sizeLine ∧ Nx (upd H4 D (.lst (acc ++ [y]))) else Nx H3) := by
  obtain ⟨al, own, ρ, p, h⟩ := h
  refine ⟨al, own, ρ, p, ?_⟩
  simp only [evLc] at h
  cases e : evOs os ρ with
  | stuck => simp only [e] at h
  | exc c ρ1 => simp only [e] at h ⊢; exact h
  | ok as ρ1 =>
    simp only [e] at h ⊢
    intro xs H1 own1 p1 s1 ao
    cases e2 : looks ρ1 as with
    | none => simp only [e2] at h
    | some ds =>
      simp only [e2] at h
      cases e3 : mk ds with
      | none => simp only [e3] at h
      | some items =>
        simp only [e3] at h
        by_cases hc : calmB ρ1 vs = true ∧ items.length ≤ lineN
        · rw [if_pos hc] at h
          obtain ⟨hcal, hlen⟩ := hc
          have cal := calmB_ok hcal
          have cal2 := cal.lks as
          have pl := p1.lks as
          obtain ⟨J, B, Y, c1, c2, c3, c4, c5⟩ := it (fun b => Zf al own1 b ∧ H1 b ≠ none) (fun b => ¬ Wr own1 (lks as ρ1) b) H1 xs ds items (fun b z => z.1.2.wr) (ao.walk p1 (fun _ z => z) e2) e3
          refine c1 _ fun D hDn => ?_
          let G : Out (List PyData) → Prop := fun o => ∃ ds ρ3, o = .ok ds ρ3 ∧ OkE K al own1 ρ1 σ H1 Q (.ow (.list ds)) (restE ρ1 (uns as ρ1 ρ3) vs)
          have hG : G (lcGo t vs tt te items [] (wipeE (lks as ρ1) vs)) := by
            cases eq : lcGo t vs tt te items [] (wipeE (lks as ρ1) vs) with
            | ok ds3 ρ3 => simp only [eq] at h; exact ⟨ds3, ρ3, rfl, OkE.after s1 h⟩
            | exc c ρ3 => simp only [eq] at h
            | stuck => simp only [eq] at h
          clear h
          have nal : ¬ (fun b => al b ∧ b ≠ D) D := fun z => z.2 rfl
          refine lc_it c2 (fun i H2 => ∃ own2 ρ2 acc ds2 bs, H2 D = some (.lst acc) ∧ acc.length ≤ i ∧ RpA K H2 acc ds2 bs ∧ (∀ b ∈ bs, Zf (fun b => al b ∧ b ≠ D) own2 b) ∧ Free own2 D ∧ Pre K (fun b => al b ∧ b ≠ D) own2 ρ2 (wipe σ vs) H2 ∧ Stp own1 (lks as ρ1) H1 own2 ρ2 H2 ∧ G (lcGo t vs tt te (items.drop i) ds2 ρ2)) ?_ ?_ ?_ ?_
          · exact ⟨own1, wipeE (lks as ρ1) vs, [], [], [], upd_same, Nat.le_refl _, .nil, (fun _ z => nomatch z), (p1.freeN hDn).2, (pl.lay hDn).wipe vs, ((Grow.upd hDn).stp).wipe cal2, by rw [List.drop_zero]; exact hG⟩
          · exact fun i H2 _ ⟨own2, ρ2, acc, ds2, bs, _, _, _, _, _, _, s2, _⟩ => c4 H2 (s2.kept pl)
          · intro i x H2 H3 hi ⟨own2, ρ2, acc, ds2, bs, q1, q2, q3, q4, q5, p2, s2, g2⟩ y
            obtain ⟨g, d, cs, r1, r2, r3⟩ := c5 i H2 x H3 hi (c4 H2 (s2.kept pl)) y
            have ed : items.drop i = d :: items.drop (i + 1) := by
              obtain ⟨_, r1'⟩ := List.getElem?_eq_some_iff.mp r1
              rw [← r1', List.getElem_cons_drop]
            rw [ed] at g2
            simp only [lcGo] at g2
            have p3 := p2.grow g
            have z3 : ∀ b ∈ cs, Zf (fun b => al b ∧ b ≠ D) own2 b := fun b hb => ⟨⟨(r3 b hb).1.1, fun q => (r3 b hb).2 (q ▸ hDn)⟩, fun j q1 => (s2.nw j b q1).elim (fun ⟨k, q2⟩ => (r3 b hb).1.2 k q2) (r3 b hb).2⟩
            have hD3 := g.1 D _ q1
            cases eb : bindT t d ρ2 with
            | none => simp only [eb] at g2; obtain ⟨_, _, z, _⟩ := g2; cases z
            | some ρ3 =>
              simp only [eb] at g2
              refine ⟨_, own2, ρ2, d, cs, ρ3, p3, r2, z3, eb, fun σ4 own4 p4 s4 a4 => ?_⟩
              have hl : σ4.length = σ.length := by rw [← p4.len, s4.ln, p3.len, wipe_length]
              have we := wipe_eq a4 hvs hl
              refine ⟨we, _, own4, ρ3, p4, ?_⟩
              have f4 : Free own4 D := Free.after q5 (by rw [hD3]; exact fun z => nomatch z) s4
              have sv4 := g.stp (own := own2) (ρ := ρ2) |>.trans s4
              obtain ⟨ra4, za4⟩ := sv4.rpA p2 q3 q4
              cases et : tt ρ3 with
              | stuck => simp only [et] at g2; obtain ⟨_, _, z, _⟩ := g2; cases z
              | exc c ρ4 => simp only [et] at g2; obtain ⟨_, _, z, _⟩ := g2; cases z
              | ok b ρ4 =>
                simp only [et] at g2 ⊢
                intro H5 own5 p5 s5
                have hD5 := s5.keep D _ hD3 f4.wr
                have f5 : Free own5 D := Free.after f4 (by rw [hD3]; exact fun z => nomatch z) s5
                obtain ⟨ra5, za5⟩ := s5.rpA p4 ra4 za4
                have st5 := s2.trans (sv4.trans s5)
                cases b with
                | false =>
                  simp only at g2
                  simp only [Bool.false_eq_true, if_false]
                  exact ⟨own5, wipeE ρ4 vs, acc, ds2, bs, hD5, by omega, ra5, za5, f5, by rw [← we]; exact p5.wipe vs, st5.wipe cal2, g2⟩
                | true =>
                  simp only at g2
                  simp only [if_true]
                  refine ⟨_, own5, ρ4, p5, ?_⟩
                  cases ee : te ρ4 with
                  | stuck => simp only [ee] at g2; obtain ⟨_, _, z, _⟩ := g2; cases z
                  | exc c ρ5 => simp only [ee] at g2; obtain ⟨_, _, z, _⟩ := g2; cases z
                  | ok r ρ5 =>
                    simp only [ee] at g2 ⊢
                    refine OkE.share fun y H6 own6 as6 p6 s6 r6 z6 => ?_
                    have hD6 := s6.keep D _ hD5 f5.wr
                    have f6 : Free own6 D := Free.after f5 (by rw [hD5]; exact fun z => nomatch z) s6
                    obtain ⟨ra6, za6⟩ := s6.rpA p5 ra5 za5
                    have mu : Mut (some (HO.lst acc)) := by trivial
                    refine ⟨acc, hD6, by rw [line_eq]; omega, own6, wipeE ρ5 vs, acc ++ [y], ds2 ++ [r.d], bs ++ (as6 ++ []), upd_same, by rw [List.length_append]; simp; exact q2, ?_, ?_, f6, ?_, ?_, g2⟩
                    · refine RpA.append (upd_rpA hD6 mu ra6 fun b hb q => (za6 b hb).1.2 q) (.cons (upd_rp hD6 mu r6 fun b hb q => (z6 b hb).1.2 q) .nil)
                    · intro b hb
                      rcases List.mem_append.mp hb with hb | hb
                      · exact za6 b hb
                      · rw [List.append_nil] at hb; exact z6 b hb
                    · rw [← we]; exact (p6.out hD6 mu nal f6).wipe vs
                    · exact ((st5.trans s6).out hDn (by rw [hD6]; exact fun z => nomatch z)).wipe cal2
          · rintro H2 ⟨own2, ρ2, acc, ds2, bs, q1, q2, q3, q4, q5, p2, s2, g2⟩
            rw [List.drop_length] at g2
            obtain ⟨ds3, ρ3, eo, ok⟩ := g2
            simp only [lcGo] at eo
            cases eo
            obtain ⟨p3, s3⟩ := unlocks p1 p2 (fun i b h e => ⟨h, fun z => q5 i (z ▸ e)⟩) s2
            exact ok (.ref D) H2 own2 D (Pre.rest p1 s3 p3 hDn) (s3.rest cal) ⟨rfl, .inl ⟨acc, ds2, bs, rfl, q1, q3, q4⟩⟩ (p1.fr D hDn) q5 (.inl hDn)
        · rw [if_neg hc] at h; exact h.elim
/-! the expressions -/
variable {elt tg iter a b : Expr} {ifs : List Expr} {scope : Scope} {blk : List (Str × Nat)} {t : Tg} {tt : Tv} {te : Ev} {o o2 : Opd}
def tvYes : Tv := fun ρ => .ok true ρ
theorem pts_0 : PTs X [] (SemT X.K W tvYes) := by
  refine ⟨fun pins s σ H Q I ⟨al, own, ρ, p, h⟩ => pts_nil.run pins s σ H Q I ?_⟩
  exact h H own p .refl
theorem pts_1 {c : Expr} (h : PT X c (SemT X.K W tt)) : PTs X [c] (SemT X.K W tt) := pts_one h
/-- what stands within the brackets -/
structure Blk (X : Cx) (scope : Scope) (blk : List (Str × Nat)) (tg elt : Expr) (ifs : List Expr) (t : Tg) (tt : Tv) (te : Ev) : Prop where
  ok : BlkOk X.N X.env.scope scope blk
  g : ∀ (s : Shared) (H : Hp) (C : Addr) (cl : List (Str × Addr)) (fp : List Addr), PG (X.blk s H scope (compEnvC scope cl C X.env) fp) tg (SemG X.K t)
  c : ∀ (s : Shared) (H : Hp) (C : Addr) (cl : List (Str × Addr)) (fp : List Addr), PTs (X.blk s H scope (compEnvC scope cl C X.env) fp) ifs (SemT X.K WF tt)
  e : ∀ (s : Shared) (H : Hp) (C : Addr) (cl : List (Str × Addr)) (fp : List Addr), PE (X.blk s H scope (compEnvC scope cl C X.env) fp) elt (SemE X.K WF te)
  v : ∀ i ∈ t.ixs, i ∈ blk.map (·.2)
theorem pe_lcL (hc : X.calm = true) (hN : X.N.Nodup) (hi : PE X iter (SemO X.K W o)) (B : Blk X scope blk tg elt ifs t tt te) (hs : ∀ x, foldedSetIterable iter X.env x = pure x := by intro _; rfl) :
    PE X (.ListComp elt [⟨tg, iter, ifs, 0⟩] scope pos) (SemE X.K W (evLc [o] kList t (blk.map (·.2)) tt te)) := PE.imp (pe_lc hc hN (pi_list hi) B.ok B.g B.c B.e hs) fun σ H Q h => SemO.mono (sem1 (semLc it_list B.v h)) fun v H1 ⟨x, e, a, e2, q⟩ => by cases e; exact ⟨a, e2, q⟩
theorem pe_lcT (hc : X.calm = true) (hN : X.N.Nodup) (hi : PE X iter (SemO X.K W o)) (B : Blk X scope blk tg elt ifs t tt te) (hs : ∀ x, foldedSetIterable iter X.env x = pure x := by intro _; rfl) :
    PE X (.ListComp elt [⟨tg, iter, ifs, 0⟩] scope pos) (SemE X.K W (evLc [o] kTuple t (blk.map (·.2)) tt te)) := PE.imp (pe_lc hc hN (pi_tup hi) B.ok B.g B.c B.e hs) fun σ H Q h => SemO.mono (sem1 (semLc it_tup B.v h)) fun v H1 ⟨x, e, a, e2, q⟩ => by cases e; exact ⟨a, e2, q⟩
end
end
end Ev
set_option Elab.async false
set_option linter.all false
set_option autoImplicit false
set_option maxRecDepth 100000
/-! Ev11: what is walked (lists, tuples, texts, ranges, enumerate, zip); for and comprehensions over any of it. -/
namespace Ev
open PySem PySem.Spec L2
open PyProof.Rows hiding St
noncomputable section
abbrev Wi := List V → Hp → (It → Hp → Prop) → Prop
/-- operands os, plain walk mk, of the iterable text -/
def Src (X : Cx) (W : WX) (tg iter : Expr) (os : List Opd) (mk : List PyData → Option (List PyData)) : Prop :=
  ∃ (wi : TI) (wi' : Wi), PI X tg iter wi ∧ ItOk X.K wi' mk ∧ ∀ σ H R, SemOs X.K W os σ H (fun vs H1 => wi' vs H1 R) → wi σ H R
section
variable {K : PySem.W.Frag} {W : WX} {X : Cx} {pos p : Pos} {tg iter a b c : Expr} {body : List Stmt} {t : Tg} {fb : EvS} {o o2 o3 : Opd} {os : List Opd} {mk : List PyData → Option (List PyData)} {D : Ends} {σ : St} {H : Hp}
theorem s_for (hp : PassesOwn (model X.prog X.w) X.A X.env X.xe) (hc : X.calm = true) (S : Src X W tg iter os mk) (hg : PG X tg (SemG X.K t)) (hb : PSs X body (SemS X.K W fb)) (hs : ∀ x, foldedSetIterable iter X.env x = pure x := by intro _; rfl) :
    PS X (.For tg iter body [] pos) (SemS X.K W (evFor os mk t fb)) := by
  obtain ⟨wi, wi', h1, h2, h3⟩ := S
  exact PS.imp (ps_for hp hc h1 hg hb hs) fun D σ H h => h3 σ H _ (semFor h2 h)
variable {elt : Expr} {ifs : List Expr} {scope : Scope} {blk : List (Str × Nat)} {tt : Tv} {te : Ev}
theorem pe_lcE (hc : X.calm = true) (hN : X.N.Nodup) (S : Src X W tg iter os mk) (B : Blk X scope blk tg elt ifs t tt te) (hs : ∀ x, foldedSetIterable iter X.env x = pure x := by intro _; rfl) :
    PE X (.ListComp elt [⟨tg, iter, ifs, 0⟩] scope pos) (SemE X.K W (evLc os mk t (blk.map (·.2)) tt te)) := by
  obtain ⟨wi, wi', h1, h2, h3⟩ := S
  exact PE.imp (pe_lc hc hN h1 B.ok B.g B.c B.e hs) fun σ H Q h => h3 σ H _ (semLc h2 B.v h)
/-- name = [..] on one line -/
theorem s_setLc {i : Nat} {y : Str} {py spos : Pos} (hc : X.calm = true) (hN : X.N.Nodup) (S : Src X W tg iter os mk) (hy : X.N[i]? = some y) (hyl : X.env.scope.names.lookup y = some .local)
    (hsw : swapsWith (.ListComp elt [⟨tg, iter, ifs, 0⟩] scope pos) (some (.Name y py)) spos.line X.env = pure true) (B : Blk X scope blk tg elt ifs t tt te) (hs : ∀ x, foldedSetIterable iter X.env x = pure x := by intro _; rfl) :
    PS X (.Assign [.Name y py] (.ListComp elt [⟨tg, iter, ifs, 0⟩] scope pos) spos) (SemS X.K W (sAsg i (evLc os mk t (blk.map (·.2)) tt te))) := by
  obtain ⟨wi, wi', h1, h2, h3⟩ := S
  refine PS.imp (ps_setLc hc hN hy hyl hsw h1 B.ok B.g B.c B.e hs) fun D σ H h => ?_
  exact h3 σ H _ (semLc h2 B.v (semAsg h))
/-! ### sources -/
theorem src_list (h : PE X iter (SemO X.K W o)) : Src X W tg iter [o] kList := ⟨_, _, pi_list h, it_list, fun σ H R h => SemO.mono (sem1 h) fun v H1 ⟨x, e, a, e2, q⟩ => by cases e; exact ⟨a, e2, q⟩⟩
theorem src_tup (h : PE X iter (SemO X.K W o)) : Src X W tg iter [o] kTuple := ⟨_, _, pi_tup h, it_tup, fun σ H R h => SemO.mono (sem1 h) fun v H1 ⟨x, e, a, e2, q⟩ => by cases e; exact ⟨a, e2, q⟩⟩
/-- any of list, tuple, text -/
def signs (z : Str) : List PyData := z.cps.toList.map fun c => .str ⟨#[c]⟩
def kSeq : List PyData → Option (List PyData)
  | [.list ds] => some ds
  | [.tuple ds] => some ds
  | [.str z] => some (signs z)
  | _ => none
theorem ItOk.or {w1 w2 : Wi} {k1 k2 k : List PyData → Option (List PyData)} (h1 : ItOk K w1 k1) (h2 : ItOk K w2 k2) (hk : ∀ ds items, k ds = some items → k1 ds = some items ∨ k2 ds = some items) : ItOk K (fun vs H R => w1 vs H R ∨ w2 vs H R) k := by
  intro Z N H vs ds items hz hv h
  rcases hk ds items h with h | h
  · obtain ⟨J, B, Y, c1, c2⟩ := h1 Z N H vs ds items hz hv h
    exact ⟨J, B, Y, fun R q => .inl (c1 R q), c2⟩
  · obtain ⟨J, B, Y, c1, c2⟩ := h2 Z N H vs ds items hz hv h
    exact ⟨J, B, Y, fun R q => .inr (c1 R q), c2⟩
def kStr : List PyData → Option (List PyData)
  | [.str z] => some (signs z)
  | _ => none
theorem it_str : ItOk K (fun vs H R => ∃ z, vs = [.str z] ∧ R (Its z) H) kStr := by
  intro Z N H vs ds items hz hv h
  unfold kStr at h
  split at h
  · rename_i z
    cases h
    obtain ⟨x, rfl, hx⟩ := hv.one
    refine ⟨Its z, fun _ => True, fun i H v H' => H' = H ∧ ∃ c, z.cps[i]? = some c ∧ v = .str ⟨#[c]⟩, fun R q => ⟨z, by rw [hx.str], q⟩, ?_, trivial, fun _ _ => trivial, fun i H2 x H3 hi _ y => ?_⟩
    · show Walk (Its z) (signs z).length _ _
      rw [show (signs z).length = z.cps.size by simp [signs]]
      exact walk_str
    · obtain ⟨rfl, cc, h1, rfl⟩ := y
      refine ⟨.refl, .str ⟨#[cc]⟩, [], ?_, .str _, fun _ z => nomatch z⟩
      simp only [signs, List.getElem?_map, Array.getElem?_toList, h1, Option.map_some]
  · cases h
def iSeq (K : PySem.W.Frag) (tl : TE) : TI := fun σ H R => tl σ H fun x H1 => ((∃ a, x = .ref a ∧ (∃ xs, SqL K H1 a xs) ∧ R (Itl K a) H1) ∨ (∃ a, x = .ref a ∧ (∃ xs, SqT K H1 a xs) ∧ R (Itt K a) H1)) ∨ (∃ z, x = .str z ∧ R (Its z) H1)
theorem pi_seq {l : Expr} {tl : TE} (hl : PE X l tl) : PI X tg l (iSeq X.K tl) := by
  refine ⟨fun pins s σ H R I h => ?_⟩
  refine thn (hl.run pins s σ H _ I h) fun v s1 ⟨x, H1, I1, r1, q1⟩ => ?_
  rcases q1 with (⟨a, e, ⟨xs, hq⟩, q⟩ | ⟨a, e, ⟨xs, hq⟩, q⟩) | ⟨z, e, q⟩
  · subst e
    cases r1
    obtain ⟨its, rv, p, hz⟩ := I1.list hq
    refine wpAny_pyIter_list p.isList ?_
    refine ⟨s1.heap.objs.size, [s1.heap.objs.size], _, _, H1, rfl, I1.kept (t' := s1.toks) fun b o e => Heap.get?_push_of_some _ e, turn_list a _, ⟨_, Heap.get?_push_size _ rfl, rfl, rfl⟩, fun b hb => ?_, q⟩
    have e : b = s1.heap.objs.size := by simpa using hb
    subst e
    exact I1.fpOk (Nat.le_refl _) (I1.hok.fresh (Nat.le_refl _))
  · subst e
    cases r1
    obtain ⟨its, rv, p, hz⟩ := I1.tuple hq
    refine wpAny_pyIter_tuple (show s1.heap.IsTuple a its.toArray from p) ?_
    refine ⟨s1.heap.objs.size, [s1.heap.objs.size], _, _, H1, rfl, I1.kept (t' := s1.toks) fun b o e => Heap.get?_push_of_some _ e, turn_tuple a _, ⟨_, Heap.get?_push_size _ rfl, rfl, rfl⟩, fun b hb => ?_, q⟩
    have e : b = s1.heap.objs.size := by simpa using hb
    subst e
    exact I1.fpOk (Nat.le_refl _) (I1.hok.fresh (Nat.le_refl _))
  · subst e
    obtain ⟨t, rfl⟩ := r1
    cases ha : z.cps.all (· < 128)
    · exact wpAny_pyIter_wide ha (pi_one (tk := s1.toks) I1 _ (turn_str _ z t "str_iterator" (.inr rfl)) ⟨_, Heap.get?_push_size _ rfl, rfl, rfl⟩ q)
    · exact wpAny_pyIter_ascii ha (pi_one (tk := s1.toks) I1 _ (turn_str _ z t "str_ascii_iterator" (.inl rfl)) ⟨_, Heap.get?_push_size _ rfl, rfl, rfl⟩ q)
def kLT : List PyData → Option (List PyData)
  | [.list ds] => some ds
  | [.tuple ds] => some ds
  | _ => none
theorem it_lt : ItOk K (fun vs H R => wiList K vs H R ∨ wiTup K vs H R) kLT := ItOk.or it_list it_tup fun ds items h => by
  unfold kLT at h
  split at h
  · exact .inl h
  · exact .inr h
  · cases h
theorem it_seq : ItOk K (fun vs H R => (wiList K vs H R ∨ wiTup K vs H R) ∨ ∃ z, vs = [.str z] ∧ R (Its z) H) kSeq := ItOk.or it_lt it_str fun ds items h => by
  unfold kSeq at h
  split at h
  · exact .inl h
  · exact .inl h
  · exact .inr h
  · cases h
theorem src_seq (h : PE X iter (SemO X.K W o)) : Src X W tg iter [o] kSeq := ⟨_, _, pi_seq h, it_seq, fun σ H R h => SemO.mono (sem1 h) fun v H1 q => by
  rcases q with (⟨x, e, a, e2, q⟩ | ⟨x, e, a, e2, q⟩) | ⟨z, e, q⟩
  · cases e; exact .inl (.inl ⟨a, e2, q⟩)
  · cases e; exact .inl (.inr ⟨a, e2, q⟩)
  · cases e; exact .inr ⟨z, rfl, q⟩⟩
theorem src_r1 (hg : Gl X "range") (hm : X.mg "range" = none) (ha : PA X [a] (SemOs X.K W [o])) (hs : starEach [a] X.env = [(false, eval a X.env)] := by rfl) : Src X W tg (.Call (.Name "range" p) [a] [] pos) [o] kRange1 :=
  ⟨_, _, pi_range1 hg hm ha hs, it_range1, fun σ H R h => h⟩
theorem src_r2 (hg : Gl X "range") (hm : X.mg "range" = none) (ha : PA X [a, b] (SemOs X.K W [o, o2])) (hs : starEach [a, b] X.env = [(false, eval a X.env), (false, eval b X.env)] := by rfl) (hs2 : starEach [b] X.env = [(false, eval b X.env)] := by rfl) : Src X W tg (.Call (.Name "range" p) [a, b] [] pos) [o, o2] kRange2 :=
  ⟨_, _, pi_range2 hg hm ha hs hs2, it_range2, fun σ H R h => h⟩
/-- range(m, n, -1) -/
def rgDn (a : Int) (n : Nat) : List PyData := (List.range n).map fun i : Nat => .int (a - (i : Int))
theorem rgDn_length (a : Int) (n : Nat) : (rgDn a n).length = n := by simp [rgDn]
def kRange3 : List PyData → Option (List PyData)
  | [.int m, .int n, .int c] => if c = -1 ∧ (-p62 ≤ m ∧ m < p62) ∧ (-p62 ≤ n ∧ n < p62) then some (rgDn m (m - n).toNat) else none
  | _ => none
theorem VwNA.three {Z N : Addr → Prop} {vs : List V} {d e f : PyData} (h : VwNA K H Z N vs [d, e, f]) : ∃ x y z, vs = [x, y, z] ∧ VwN K H Z N x d ∧ VwN K H Z N y e ∧ VwN K H Z N z f := by
  cases vs with
  | nil => exact h.elim
  | cons x vs => obtain ⟨y, z, rfl, h2, h3⟩ := VwNA.two h.2; exact ⟨x, y, z, rfl, h.1, h2, h3⟩
theorem it_range3 : ItOk K (fun vs H R => ∃ (i j c : Int) (n : Nat), vs = [.int i, .int j, .int c] ∧ RgC i j c n ∧ R (Itc i c n) H) kRange3 := by
  intro Z N H vs ds items hz hv h
  unfold kRange3 at h
  split at h
  · split at h
    · rename_i m n c hn
      cases h
      rw [p62_eq] at hn
      obtain ⟨rfl, h1, h2⟩ := hn
      obtain ⟨x, y, z, rfl, hx, hy, hzz⟩ := hv.three
      refine ⟨Itc m (-1) (m - n).toNat, fun _ => True, YFn fun i => .int (m + (i : Nat) * (-1)), fun R q => ⟨m, n, -1, _, by rw [hx.int, hy.int, hzz.int], RgC.neg h1.1 h1.2 h2.1 h2.2, q⟩, ?_, trivial, fun _ _ => trivial, fun i H2 x H3 hi _ y => ?_⟩
      · rw [rgDn_length]; exact walk_rangeC
      · obtain ⟨rfl, rfl⟩ := y
        rw [rgDn_length] at hi
        refine ⟨.refl, .int (m - (i : Int)), [], by simp [rgDn, hi], ?_, fun _ z => nomatch z⟩
        have e : m + (i : Int) * (-1) = m - (i : Int) := by omega
        show Rp K _ (V.int (m + (i : Int) * (-1))) _ _
        rw [e]
        exact .int _
    · cases h
  · cases h
theorem src_r3 (hg : Gl X "range") (hm : X.mg "range" = none) (ha : PA X [a, b, c] (SemOs X.K W [o, o2, o3])) (hs : starEach [a, b, c] X.env = (false, eval a X.env) :: starEach [b, c] X.env := by rfl) (hpl : (backTo pos (starEach [b, c] X.env)).any (·.1) = false := by rfl) : Src X W tg (.Call (.Name "range" p) [a, b, c] [] pos) [o, o2, o3] kRange3 :=
  ⟨_, _, pi_range3 hg hm ha hs hpl, it_range3, fun σ H R h => h⟩
/-! enumerate -/
def kEnumT : List PyData → Option (List PyData)
  | [.tuple ds] => some (enumD ds)
  | _ => none
theorem it_enumT : ItOk K (fun vs H R => ∃ a xs, vs = [.ref a] ∧ SqT K H a xs ∧ R (IteT K a) H) kEnumT := by
  intro Z N H vs ds items hz hv h
  unfold kEnumT at h
  split at h
  · rename_i ds'
    cases h
    obtain ⟨x, rfl, hx⟩ := hv.one
    obtain ⟨a, vs, as, rfl, h1, r, z⟩ := hx.tuple
    refine ⟨IteT K a, fun H2 => SqT K H2 a vs ∧ RpA K H2 vs ds' as, YPair (fun i => some (.int (i : Nat))) (fun i => vs[i]?), fun R q => ⟨a, vs, rfl, h1, q⟩, ?_, ⟨h1, r⟩, fun H2 k => ⟨k.sqT h1, k.rpA r fun b hb => hz b (z b hb)⟩, ?_⟩
    · rw [enumD_length, ← r.length]; exact walk_enumT.mono (fun H h => h.1) fun i H x H' _ _ y => y
    · rintro i H2 x H3 hi ⟨g, r2⟩ ⟨T, x1, y1, rfl, hT, rfl, e1, e2⟩
      rw [enumD_length] at hi
      cases e1
      obtain ⟨d, bs, q1, q2, q3⟩ := item_of r2 z hi e2
      obtain ⟨g2, cs, q4, q5⟩ := pair_rp (Z := Z) hT (.int (i : Int)) (fun _ z => nomatch z) q2 q3
      exact ⟨g2, _, cs, enumD_get q1, q4, q5⟩
  · cases h
def kEnumS : List PyData → Option (List PyData)
  | [.list ds] => some (enumD ds)
  | [.tuple ds] => some (enumD ds)
  | _ => none
def iEnumS (K : PySem.W.Frag) (ta : TA) : TI := fun σ H R => ta σ H fun vs H1 => (∃ a xs, vs = [.ref a] ∧ SqL K H1 a xs ∧ R (Ite K a) H1) ∨ (∃ a xs, vs = [.ref a] ∧ SqT K H1 a xs ∧ R (IteT K a) H1)
theorem pi_enumS {e : Expr} {ta : TA} {tpos : Pos} {elts : List Expr} {kk : Nat} (hg : Gl X "enumerate") (hm : X.mg "enumerate" = none) (ha : PA X [e] ta) (hs : starEach [e] X.env = [(false, eval e X.env)] := by rfl) :
    PI X (.Tuple elts kk tpos) (.Call (.Name "enumerate" p) [e] [] pos) (iEnumS X.K ta) := by
  refine ⟨fun pins s σ H R I h => ?_⟩
  refine Call_ (ld_blt I hg hm boot_enumerate (PyProof.Rows.callWith_type1 (thn (ha.run pos pins s σ H _ I h) fun us s1 ⟨vs, H1, I1, r1, q1⟩ => ?_) hs rfl))
  rcases q1 with ⟨a, xs, ex, hq, q⟩ | ⟨a, xs, ex, hq, q⟩
  · subst ex
    cases r1 with
    | cons r rr =>
      cases rr
      cases r
      obtain ⟨its, rv, p', hz⟩ := I1.list hq
      refine call_enumerate_list p'.isList fun h' he hit hsz hk => wpAny_pyIter_enum he ?_
      have I2 : Inv X pins σ H1 { s1 with heap := h' } := I1.kept (t' := s1.toks) hk
      refine ⟨s1.heap.objs.size + 1, [s1.heap.objs.size + 1, s1.heap.objs.size], _, _, H1, rfl, I2, turn_enum a (s1.heap.objs.size + 1) s1.heap.objs.size, ⟨⟨.none, he⟩, hit, Nat.succ_ne_self _⟩, fun b hb => ?_, q⟩
      have e' : b = s1.heap.objs.size + 1 ∨ b = s1.heap.objs.size := by simpa using hb
      have hle : s1.heap.objs.size ≤ b := by
        rcases e' with z | z
        · rw [z]; exact Nat.le_add_right _ _
        · rw [z]; exact Nat.le_refl _
      exact I1.fpOk hle (I1.hok.fresh hle)
  · subst ex
    cases r1 with
    | cons r rr =>
      cases rr
      cases r
      obtain ⟨its, rv, p', hz⟩ := I1.tuple hq
      have p2 : s1.heap.IsTuple a its.toArray := p'
      have al : a < s1.heap.objs.size := by obtain ⟨o, e, _⟩ := p2; exact Heap.lt_size e
      refine call_enum_tup p2 fun h' he hit hsz hk => wpAny_pyIter_enum he ?_
      have I2 : Inv X pins σ H1 { s1 with heap := h' } := I1.kept (t' := s1.toks) hk
      refine ⟨s1.heap.objs.size + 1, [s1.heap.objs.size + 1, s1.heap.objs.size], _, _, H1, rfl, I2, turn_enumT a (s1.heap.objs.size + 1) s1.heap.objs.size, ⟨⟨.none, he⟩, hit, Nat.succ_ne_self _, Nat.ne_of_lt al, Nat.ne_of_lt (Nat.lt_succ_of_lt al)⟩, fun b hb => ?_, q⟩
      have e' : b = s1.heap.objs.size + 1 ∨ b = s1.heap.objs.size := by simpa using hb
      have hle : s1.heap.objs.size ≤ b := by
        rcases e' with z | z
        · rw [z]; exact Nat.le_add_right _ _
        · rw [z]; exact Nat.le_refl _
      exact I1.fpOk hle (I1.hok.fresh hle)
theorem it_enumS : ItOk K (fun vs H R => (∃ a xs, vs = [.ref a] ∧ SqL K H a xs ∧ R (Ite K a) H) ∨ (∃ a xs, vs = [.ref a] ∧ SqT K H a xs ∧ R (IteT K a) H)) kEnumS := ItOk.or it_enum it_enumT fun ds items h => by
  unfold kEnumS at h
  split at h
  · exact .inl h
  · exact .inr h
  · cases h
theorem src_enum {tpos : Pos} {elts : List Expr} {kk : Nat} (hg : Gl X "enumerate") (hm : X.mg "enumerate" = none) (ha : PA X [a] (SemOs X.K W [o])) (hs : starEach [a] X.env = [(false, eval a X.env)] := by rfl) : Src X W (.Tuple elts kk tpos) (.Call (.Name "enumerate" p) [a] [] pos) [o] kEnumS :=
  ⟨_, _, pi_enumS hg hm ha hs, it_enumS, fun σ H R h => h⟩
/-! zip of two lists, of two tuples -/
def zipD (ds es : List PyData) : List PyData := ds.zipWith (fun d e => .tuple [d, e]) es
def kZip : List PyData → Option (List PyData)
  | [.list ds, .list es] => some (zipD ds es)
  | [.tuple ds, .tuple es] => some (zipD ds es)
  | _ => none
theorem walk_zipT {a b : Addr} {xs ys : List V} {n : Nat} (hn : n = min xs.length ys.length) : Walk (RZ.ItzT K a b) n (fun H => SqT K H a xs ∧ SqT K H b ys) (YPair (fun i => xs[i]?) (fun i => ys[i]?)) := by
  subst hn
  refine ⟨fun i _ hi q => ?_, fun _ q => ⟨xs, ys, q.1, q.2, by omega⟩, fun i H v H' _ q y => ?_⟩
  · have h1 : i < xs.length := by omega
    have h2 : i < ys.length := by omega
    exact ⟨xs, ys, xs[i], ys[i], q.1, q.2, by simp [h1], by simp [h2]⟩
  · obtain ⟨T, x, z, h1, h2, h3, h4, h5⟩ := y
    exact ⟨T, x, z, h1, h2, h3, h4 xs q.1, h5 ys q.2⟩
theorem zip_item {Z : Addr → Prop} {ds es : List PyData} {xs ys : List V} {as bs : List Addr} {i : Nat} {H2 H3 : Hp} {x : V} (r : RpA K H2 xs ds as) (z : ∀ b ∈ as, Z b) (r' : RpA K H2 ys es bs) (z' : ∀ b ∈ bs, Z b) (hi : i < (zipD ds es).length)
    (y : YPair (fun i => xs[i]?) (fun i => ys[i]?) i H2 x H3) : Grow H2 H3 ∧ ∃ d as, (zipD ds es)[i]? = some d ∧ Rp K H3 x d as ∧ ∀ b ∈ as, Z b := by
  obtain ⟨T, x1, y1, rfl, hT, rfl, e1, e2⟩ := y
  have hl : i < ds.length ∧ i < es.length := by
    simp only [zipD, List.length_zipWith] at hi
    omega
  obtain ⟨d, cs, q1, q2, q3⟩ := item_of r z hl.1 e1
  obtain ⟨e, cs', q1', q2', q3'⟩ := item_of r' z' hl.2 e2
  obtain ⟨g2, cs2, q4, q5⟩ := pair_rp (Z := Z) hT q2 q3 q2' q3'
  exact ⟨g2, _, cs2, by simp [zipD, List.getElem?_zipWith, q1, q1'], q4, q5⟩
theorem it_zip : ItOk K (fun vs H R => ∃ a b xs ys, vs = [.ref a, .ref b] ∧ ((SqL K H a xs ∧ SqL K H b ys ∧ R (Itz K a b) H) ∨ (SqT K H a xs ∧ SqT K H b ys ∧ R (RZ.ItzT K a b) H))) kZip := by
  intro Z N H vs ds items hz hv h
  unfold kZip at h
  split at h
  · rename_i ds es
    cases h
    obtain ⟨x, y, rfl, hx, hy⟩ := hv.two
    obtain ⟨a, xs, as, rfl, h1, n, r, z⟩ := hx.list hz
    obtain ⟨b, ys, bs, rfl, h1', n', r', z'⟩ := hy.list hz
    refine ⟨Itz K a b, fun H2 => (SqL K H2 a xs ∧ SqL K H2 b ys) ∧ RpA K H2 xs ds as ∧ RpA K H2 ys es bs, YPair (fun i => xs[i]?) (fun i => ys[i]?), fun R q => ⟨a, b, xs, ys, rfl, .inl ⟨h1, h1', q⟩⟩, ?_, ⟨⟨h1, h1'⟩, r, r'⟩,
      fun H2 k => ⟨⟨n H2 k, n' H2 k⟩, k.rpA r fun b hb => hz b (z b hb), k.rpA r' fun b hb => hz b (z' b hb)⟩, fun i H2 x H3 hi ⟨_, r2, r2'⟩ y => zip_item r2 z r2' z' hi y⟩
    exact (walk_zip (by simp only [zipD, List.length_zipWith]; rw [r.length, r'.length])).mono (fun H h => h.1) fun i H x H' _ _ y => y
  · rename_i ds es
    cases h
    obtain ⟨x, y, rfl, hx, hy⟩ := hv.two
    obtain ⟨a, xs, as, rfl, h1, r, z⟩ := hx.tuple
    obtain ⟨b, ys, bs, rfl, h1', r', z'⟩ := hy.tuple
    refine ⟨RZ.ItzT K a b, fun H2 => (SqT K H2 a xs ∧ SqT K H2 b ys) ∧ RpA K H2 xs ds as ∧ RpA K H2 ys es bs, YPair (fun i => xs[i]?) (fun i => ys[i]?), fun R q => ⟨a, b, xs, ys, rfl, .inr ⟨h1, h1', q⟩⟩, ?_, ⟨⟨h1, h1'⟩, r, r'⟩,
      fun H2 k => ⟨⟨k.sqT h1, k.sqT h1'⟩, k.rpA r fun b hb => hz b (z b hb), k.rpA r' fun b hb => hz b (z' b hb)⟩, fun i H2 x H3 hi ⟨_, r2, r2'⟩ y => zip_item r2 z r2' z' hi y⟩
    exact (walk_zipT (by simp only [zipD, List.length_zipWith]; rw [r.length, r'.length])).mono (fun H h => h.1) fun i H x H' _ _ y => y
  · cases h
theorem src_zip {tpos : Pos} {elts : List Expr} {kk : Nat} (hg : Gl X "zip") (hm : X.mg "zip" = none) (ha : PA X [a, b] (SemOs X.K W [o, o2])) (hs : starEach [a, b] X.env = (false, eval a X.env) :: starEach [b] X.env := by rfl) (hpl : (backTo pos (starEach [b] X.env)).any (·.1) = false := by rfl) :
    Src X W (.Tuple elts kk tpos) (.Call (.Name "zip" p) [a, b] [] pos) [o, o2] kZip := ⟨_, _, RZ.pi_zipA hg hm ha hs hpl, it_zip, fun σ H R h => h⟩
end
end
end Ev
set_option Elab.async false
set_option linter.all false
set_option autoImplicit false
set_option maxRecDepth 100000
/-! Ev12: defs and calls. -/
namespace Ev
open PySem PySem.Spec L2
open PyProof.Rows hiding St
noncomputable section
abbrev FnV := List Sl → OutS
/-- the slots at a def's entry; k: the names beyond the parameters -/
def entry (ss : List Sl) (k : Nat) : Env := ss.map some ++ List.replicate k none
/-- what a def leaves of its slots: the caller's lists, the walked ones -/
def keepIo : Option Sl → Option Sl
  | some (.io d) => some (.io d)
  | some (.lk d) => some (.lk d)
  | _ => none
def trimE (ρ : Env) : Env := ρ.map keepIo
def trimO : OutS → OutS
  | .ret r ρ => .ret r (trimE ρ)
  | .next ρ => .next (trimE ρ)
  | .exc c ρ => .exc c (trimE ρ)
  | .brk _ => .stuck
  | .cont _ => .stuck
  | .stuck => .stuck
def mkF (k : Nat) (fb : EvS) : FnV := fun ss => trimO (fb (entry ss k))
def FnQ (K : PySem.W.Frag) (Z : Addr → Prop) (own : Own) (ρ : Env) (H : Hp) (Q : VK) (E : XK) : OutS → Prop
  | .ret r ρ' => RtS K Z own ρ H Q r ρ'
  | .next ρ' => NxS K Z own ρ H (fun _ H' => Q .non H') ρ'
  | .exc c ρ' => ∀ σ' H' own', Pre K Z own' ρ' σ' H' → Stp own ρ H own' ρ' H' → E (.ref (He.ga K c)) none H'
  | _ => False
def spV (K : PySem.W.Frag) (n k : Nat) (F : FnV) : Sp := fun vs H Q E => vs.length = n ∧ ∃ Z own ss, Pre K Z own (entry ss k) (vs.map some ++ List.replicate k none) H ∧ FnQ K Z own (entry ss k) H Q E (F ss)
/-! what is left of the slots is still what it says -/
section
variable {K : PySem.W.Frag} {al : Addr → Prop} {own own' own0 : Own} {ρ ρ' ρ0 : Env} {σ σ' : St} {H H' H0 : Hp}
theorem keepIo_some {x : Option Sl} {s : Sl} (h : keepIo x = some s) : x = some s ∧ ((∃ d, s = .io d) ∨ ∃ d, s = .lk d) := by
  cases x with
  | none => cases h
  | some t => cases t <;> first | (cases h; done) | (cases h; exact ⟨rfl, .inl ⟨_, rfl⟩⟩) | (cases h; exact ⟨rfl, .inr ⟨_, rfl⟩⟩)
theorem trimE_get {i : Nat} {s : Sl} (h : (trimE ρ)[i]? = some (some s)) : ρ[i]? = some (some s) ∧ ((∃ d, s = .io d) ∨ ∃ d, s = .lk d) := by
  unfold trimE at h
  rw [List.getElem?_map] at h
  cases e : ρ[i]? with
  | none => rw [e] at h; cases h
  | some x =>
    rw [e] at h
    obtain ⟨q, z⟩ := keepIo_some (Option.some.inj h)
    exact ⟨by rw [q], z⟩
theorem trimE_io {i : Nat} {d : PyData} (h : ρ[i]? = some (some (.io d))) : (trimE ρ)[i]? = some (some (.io d)) := by
  unfold trimE
  rw [List.getElem?_map, h]
  rfl
theorem trimE_lk {i : Nat} {d : PyData} (h : ρ[i]? = some (some (.lk d))) : (trimE ρ)[i]? = some (some (.lk d)) := by
  unfold trimE
  rw [List.getElem?_map, h]
  rfl
def Own.trim (own : Own) (ρ : Env) : Own := fun j => match (trimE ρ)[j]? with
  | some (some _) => own j
  | _ => none
theorem Own.trim_some {j : Nat} {a : Addr} (h : own.trim ρ j = some a) : own j = some a := by
  unfold Own.trim at h
  split at h
  · exact h
  · cases h
theorem Own.trim_at {j : Nat} {s : Sl} (h : (trimE ρ)[j]? = some (some s)) : own.trim ρ j = own j := by
  unfold Own.trim
  rw [h]
theorem Free.trim {b : Addr} (h : Free own b) : Free (own.trim ρ) b := fun j e => h j (Own.trim_some e)
theorem Zf.trim {b : Addr} (h : Zf al own b) : Zf al (own.trim ρ) b := ⟨h.1, h.2.trim⟩
theorem Pre.trim (p : Pre K al own ρ σ H) : Pre K al (own.trim ρ) (trimE ρ) σ H := by
  refine ⟨p.fr, fun i j a e1 e2 => p.inj i j a (Own.trim_some e1) (Own.trim_some e2), fun i a e => p.mu i a (Own.trim_some e), by rw [trimE, List.length_map]; exact p.len, fun i s e => ?_⟩
  obtain ⟨e1, k⟩ := trimE_get e
  obtain ⟨v, h1, h2⟩ := p.sl i s e1
  refine ⟨v, h1, ?_⟩
  have eo := Own.trim_at (own := own) e
  rcases k with ⟨d, rfl⟩ | ⟨d, rfl⟩
  · obtain ⟨a, q, o⟩ := h2
    exact ⟨a, by rw [eo]; exact q, o.mono fun b hb => hb.trim⟩
  · obtain ⟨a, q, o⟩ := h2
    exact ⟨a, by rw [eo]; exact q, o.mono fun b hb => hb.trim⟩
theorem Stp.trim (s : Stp own0 ρ0 H0 own ρ H) : Stp own0 ρ0 H0 (own.trim ρ) (trimE ρ) H where
  keep := s.keep
  dom := s.dom
  nw := fun i a e => s.nw i a (Own.trim_some e)
  fz := fun b ⟨i, x, e1, e2, e3⟩ => s.fz b ⟨i, x, Own.trim_some e1, (trimE_get e2).1, e3⟩
  lk := fun i d e => by
    obtain ⟨q1, q2⟩ := s.lk i d e
    have z := trimE_lk q1
    exact ⟨z, (Own.trim_at z).trans q2⟩
  io := fun i d e => by
    obtain ⟨⟨d', q1⟩, q2⟩ := s.io i d e
    have z := trimE_io q1
    exact ⟨⟨d', z⟩, (Own.trim_at z).trans q2⟩
  ln := by rw [trimE, List.length_map]; exact s.ln
theorem RtS.untrim {Q : VK} {r : Res} (h : RtS K al own0 ρ0 H0 Q r (trimE ρ')) : RtS K al own0 ρ0 H0 Q r ρ' := by
  cases r with
  | sh d => exact fun v σ' H' own' as p s r z => h v σ' H' _ as p.trim s.trim r fun b hb => (z b hb).trim
  | ow d => exact fun v σ' H' own' a p s o ha hf hw => h v σ' H' _ a p.trim s.trim (o.mono fun b hb => hb.trim) ha hf.trim hw
theorem FnQ.untrim {Q : VK} {E : XK} {o : OutS} (h : FnQ K al own0 ρ0 H0 Q E (trimO o)) : FnQ K al own0 ρ0 H0 Q E o := by
  cases o with
  | ret r ρ' => exact RtS.untrim h
  | next ρ' => exact fun σ' H' own' p s => h σ' H' _ p.trim s.trim
  | exc c ρ' => exact fun σ' H' own' p s => h σ' H' _ p.trim s.trim
  | brk ρ' => exact h
  | cont ρ' => exact h
  | stuck => exact h
end
/-! ### calls -/
def argSl (ρ : Env) : Arg → Option Sl
  | .sh d => some (.sh d)
  | .pl i => match ρ[i]? with
    | some (some (.ow d)) => some (.io d)
    | some (some s) => some s
    | _ => none
def argSls (ρ : Env) : List Arg → Option (List Sl)
  | [] => some []
  | a :: as => match argSl ρ a, argSls ρ as with
    | some s, some ss => some (s :: ss)
    | _, _ => none
def clash (ρ : Env) : Arg → Arg → Bool
  | .pl i, .pl j => i == j && (match ρ[i]? with
    | some (some (.sh _)) => false
    | _ => true)
  | _, _ => false
def apart (ρ : Env) : List Arg → Bool
  | [] => true
  | a :: as => as.all (fun b => !clash ρ a b) && apart ρ as
/-- the caller's slots behind the call -/
def backA : List Arg → Env → Env → Option Env
  | [], _, ρ => some ρ
  | .pl i :: as, x :: xs, ρ => (match ρ[i]? with
    | some (some s) => if s.wr = true then (match x with
        | some (.io d) => backA as xs (ρ.set i (some (s.to d)))
        | _ => none) else backA as xs ρ
    | _ => none)
  | .sh _ :: as, _ :: xs, ρ => backA as xs ρ
  | _ :: _, [], _ => none
def resS : OutS → Option (Res × Env)
  | .ret r ρ => some (r, ρ)
  | .next ρ => some (.sh .none, ρ)
  | _ => none
def evCall (F : FnV) (os : List Opd) : Ev := fun ρ => match evOs os ρ with
  | .ok as ρ1 => (match argSls ρ1 as with
    | some ss => if apart ρ1 as = true then (match F ss with
      | .ret r ρ' => (match backA as ρ' ρ1 with
        | some ρ2 => .ok r ρ2
        | none => .stuck)
      | .next ρ' => (match backA as ρ' ρ1 with
        | some ρ2 => .ok (.sh .none) ρ2
        | none => .stuck)
      | .exc c ρ' => (match backA as ρ' ρ1 with
        | some ρ2 => .exc c ρ2
        | none => .stuck)
      | _ => .stuck) else .stuck
    | none => .stuck)
  | .exc c ρ1 => .exc c ρ1
  | .stuck => .stuck
section
variable {K : PySem.W.Frag} {W : WX} {al al' : Addr → Prop} {own own' own1 : Own} {ρ ρ' ρ1 ρ2 : Env} {σ σ1 σ' : St} {H H' H1 : Hp} {X : Cx} {pos : Pos} {D : Ends} {as : List Arg} {ss : List Sl} {vs : List V} {k : Nat}
theorem Sl.to_to (s : Sl) (d d' : PyData) : (s.to d).to d' = s.to d' := by cases s <;> rfl
theorem Sl.to_wr (s : Sl) (d : PyData) : (s.to d).wr = s.wr := by cases s <;> rfl
theorem backA_slot : ∀ {as : List Arg} {ρ' ρ ρ2 : Env}, backA as ρ' ρ = some ρ2 → ρ2.length = ρ.length ∧ ∀ i : Nat, (∃ (j : Nat) (d' : PyData) (s0 : Sl), as[j]? = some (.pl i) ∧ ρ'[j]? = some (some (.io d')) ∧ ρ[i]? = some (some s0) ∧ s0.wr = true ∧ ρ2[i]? = some (some (s0.to d'))) ∨
    (ρ2[i]? = ρ[i]? ∧ ∀ j : Nat, as[j]? = some (.pl i) → ∀ s, ρ[i]? = some (some s) → s.wr = false)
  | [], ρ', ρ, ρ2, h => by simp only [backA, Option.some.injEq] at h; subst h; exact ⟨rfl, fun i => .inr ⟨rfl, fun j e => by simp at e⟩⟩
  | .sh _ :: as, [], ρ, ρ2, h => by simp [backA] at h
  | .pl _ :: as, [], ρ, ρ2, h => by simp [backA] at h
  | .sh d :: as, x :: xs, ρ, ρ2, h => by
    simp only [backA] at h
    obtain ⟨hl, h⟩ := backA_slot h
    refine ⟨hl, fun i => (h i).imp (fun ⟨j, d', s0, e1, e2, e3⟩ => ⟨j + 1, d', s0, by simpa using e1, by simpa using e2, e3⟩) fun ⟨e1, e2⟩ => ⟨e1, fun j ej => ?_⟩⟩
    cases j with
    | zero => simp at ej
    | succ j => exact e2 j (by simpa using ej)
  | .pl i0 :: as, x :: xs, ρ, ρ2, h => by
    simp only [backA] at h
    split at h
    · rename_i s e0
      split at h
      · rename_i hw
        split at h
        · rename_i d0
          have hlt : i0 < ρ.length := (List.getElem?_eq_some_iff.mp e0).1
          obtain ⟨hl, h⟩ := backA_slot h
          rw [List.length_set] at hl
          refine ⟨hl, fun i => ?_⟩
          by_cases hi : i = i0
          · subst hi
            have e1 : (ρ.set i (some (s.to d0)))[i]? = some (some (s.to d0)) := List.getElem?_set_self hlt
            rcases h i with ⟨j, d', s0, q1, q2, q3, q4, q5⟩ | ⟨q1, q2⟩
            · rw [e1] at q3
              cases q3
              exact .inl ⟨j + 1, d', s, by simpa using q1, by simpa using q2, e0, hw, by rw [q5, Sl.to_to]⟩
            · exact .inl ⟨0, d0, s, rfl, rfl, e0, hw, by rw [q1, e1]⟩
          · have e1 : (ρ.set i0 (some (s.to d0)))[i]? = ρ[i]? := List.getElem?_set_ne (Ne.symm hi)
            rcases h i with ⟨j, d', s0, q1, q2, q3, q4, q5⟩ | ⟨q1, q2⟩
            · rw [e1] at q3
              exact .inl ⟨j + 1, d', s0, by simpa using q1, by simpa using q2, q3, q4, q5⟩
            · rw [e1] at q1 q2
              refine .inr ⟨q1, fun j ej => ?_⟩
              cases j with
              | zero => simp at ej; exact (hi ej.symm).elim
              | succ j => exact q2 j (by simpa using ej)
        · cases h
      · rename_i hw
        obtain ⟨hl, h⟩ := backA_slot h
        refine ⟨hl, fun i => (h i).imp (fun ⟨j, d', s0, e1, e2, e3⟩ => ⟨j + 1, d', s0, by simpa using e1, by simpa using e2, e3⟩) fun ⟨e1, e2⟩ => ⟨e1, fun j ej => ?_⟩⟩
        cases j with
        | zero =>
          simp at ej
          subst ej
          intro s' es
          rw [e0] at es
          cases es
          simpa using hw
        | succ j => exact e2 j (by simpa using ej)
    · cases h
theorem argSls_get : ∀ {as : List Arg} {ss : List Sl}, argSls ρ as = some ss → ss.length = as.length ∧ ∀ (j : Nat) (a : Arg), as[j]? = some a → ∃ s, ss[j]? = some s ∧ argSl ρ a = some s
  | [], ss, h => by simp only [argSls, Option.some.injEq] at h; subst h; exact ⟨rfl, fun j a e => by simp at e⟩
  | a :: as, ss, h => by
    simp only [argSls] at h
    split at h
    · rename_i s ss' e1 e2
      simp only [Option.some.injEq] at h
      subst h
      obtain ⟨hl, h⟩ := argSls_get e2
      refine ⟨by simp [hl], fun j a' e => ?_⟩
      cases j with
      | zero => simp at e; subst e; exact ⟨s, rfl, e1⟩
      | succ j => simpa using h j a' (by simpa using e)
    · cases h
theorem apart_get : ∀ {as : List Arg}, apart ρ as = true → ∀ (j j' i : Nat), as[j]? = some (.pl i) → as[j']? = some (.pl i) → clash ρ (.pl i) (.pl i) = true → j = j'
  | [], _, j, j', i, e, _, _ => by simp at e
  | a :: as, h, j, j', i, e, e', c => by
    simp only [apart, Bool.and_eq_true, List.all_eq_true] at h
    obtain ⟨h1, h2⟩ := h
    cases j with
    | zero =>
      simp at e
      subst e
      cases j' with
      | zero => rfl
      | succ j' =>
        have z := h1 _ (List.mem_of_getElem? (by simpa using e'))
        rw [c] at z
        cases z
    | succ j =>
      cases j' with
      | zero =>
        simp at e'
        subst e'
        have z := h1 _ (List.mem_of_getElem? (by simpa using e))
        rw [c] at z
        cases z
      | succ j' => rw [apart_get h2 j j' i (by simpa using e) (by simpa using e') c]
theorem ArgsOk.get : ∀ {as : List Arg} {vs : List V}, ArgsOk K H al own σ as vs → vs.length = as.length ∧ ∀ (j : Nat) (a : Arg), as[j]? = some a → ∃ v, vs[j]? = some v ∧ ArgOk K H al own σ a v
  | [], [], _ => ⟨rfl, fun j a e => by simp at e⟩
  | [], _ :: _, h => h.elim
  | _ :: _, [], h => h.elim
  | a :: as, v :: vs, ⟨h1, h2⟩ => by
    obtain ⟨hl, h⟩ := ArgsOk.get h2
    refine ⟨by simp [hl], fun j a' e => ?_⟩
    cases j with
    | zero => simp at e; subst e; exact ⟨v, rfl, h1⟩
    | succ j => simpa using h j a' (by simpa using e)
/-- who owns what at the callee's entry -/
def ownA (ρ : Env) (own : Own) (as : List Arg) : Own := fun j => match as[j]? with
  | some (.pl i) => (match ρ[i]? with
    | some (some (.sh _)) => none
    | some (some _) => own i
    | _ => none)
  | _ => none
theorem ownA_some {j : Nat} {a : Addr} (h : ownA ρ own as j = some a) : ∃ (i : Nat) (s : Sl), as[j]? = some (.pl i) ∧ ρ[i]? = some (some s) ∧ own i = some a ∧ clash ρ (.pl i) (.pl i) = true := by
  unfold ownA at h
  split at h
  · rename_i i e
    split at h
    · cases h
    · rename_i s hn e2
      refine ⟨i, s, e, e2, h, ?_⟩
      cases s with
      | sh d => exact (hn d rfl).elim
      | ow d => simp [clash, e2]
      | io d => simp [clash, e2]
      | lk d => simp [clash, e2]
      | ex a c => simp [clash, e2]
    · cases h
  · cases h
theorem entry_get {ss : List Sl} {k j : Nat} {s : Sl} (h : (entry ss k)[j]? = some (some s)) : ss[j]? = some s := by
  unfold entry at h
  by_cases hj : j < ss.length
  · rw [List.getElem?_append_left (by simpa using hj)] at h
    simpa using h
  · rw [List.getElem?_append_right (by simpa using Nat.le_of_not_lt hj)] at h
    simp only [List.getElem?_replicate] at h
    split at h
    · cases h
    · cases h
theorem entry_of {ss : List Sl} {k j : Nat} {s : Sl} (h : ss[j]? = some s) : (entry ss k)[j]? = some (some s) := by
  unfold entry
  have hj := (List.getElem?_eq_some_iff.mp h).1
  rw [List.getElem?_append_left (by simpa using hj)]
  simp [h]
theorem start_of {vs : List V} {k j : Nat} {v : V} (h : vs[j]? = some v) : (vs.map some ++ List.replicate k none)[j]? = some (some v) := by
  have hj := (List.getElem?_eq_some_iff.mp h).1
  rw [List.getElem?_append_left (by simpa using hj)]
  simp [h]
theorem Zf.inA {b : Addr} (h : Zf al own b) : Zf (Zf al own) (ownA ρ own as) b := ⟨h, fun j e => by
  obtain ⟨i, s, _, _, q, _⟩ := ownA_some e
  exact h.2 i q⟩
theorem call_pre (p : Pre K al own ρ σ H) (e1 : argSls ρ as = some ss) (e2 : apart ρ as = true) (ao : ArgsOk K H al own σ as vs) : Pre K (Zf al own) (ownA ρ own as) (entry ss k) (vs.map some ++ List.replicate k none) H := by
  obtain ⟨l1, g1⟩ := argSls_get e1
  obtain ⟨l2, g2⟩ := ao.get
  refine ⟨fun b h => p.freeN h, fun j j' a h h' => ?_, fun j a h => ?_, by simp [entry, l1, l2], fun j s h => ?_⟩
  · obtain ⟨i, s, q1, q2, q3, q4⟩ := ownA_some h
    obtain ⟨i', s', r1, r2, r3, r4⟩ := ownA_some h'
    have ii := p.inj _ _ _ q3 r3
    subst ii
    exact apart_get e2 j j' i q1 r1 q4
  · obtain ⟨i, s, q1, q2, q3, q4⟩ := ownA_some h
    exact p.mu i a q3
  · have h := entry_get h
    have hj : j < as.length := by rw [← l1]; exact (List.getElem?_eq_some_iff.mp h).1
    obtain ⟨s', q1, q2⟩ := g1 j as[j] (List.getElem?_eq_getElem hj)
    rw [h] at q1
    cases q1
    obtain ⟨v, q3, q4⟩ := g2 j as[j] (List.getElem?_eq_getElem hj)
    refine ⟨v, start_of q3, ?_⟩
    have ej : as[j]? = some as[j] := List.getElem?_eq_getElem hj
    cases ea : as[j] with
    | sh d =>
      rw [ea] at q2 q4
      simp only [argSl, Option.some.injEq] at q2
      subst q2
      obtain ⟨bs, r, z⟩ := q4
      exact ⟨bs, r, fun b hb => (z b hb).inA⟩
    | pl i =>
      rw [ea] at q2 q4 ej
      simp only [argSl] at q2
      cases ei : ρ[i]? with
      | none => simp [ei] at q2
      | some t =>
        cases t with
        | none => simp [ei] at q2
        | some t =>
          obtain ⟨v', w1, w2⟩ := p.sl i t ei
          rw [show σ[i]? = some (some v) from q4] at w1
          cases w1
          cases t with
          | sh d =>
            simp only [ei, Option.some.injEq] at q2
            subst q2
            obtain ⟨bs, r, z⟩ := w2
            exact ⟨bs, r, fun b hb => (z b hb).inA⟩
          | ow d =>
            simp only [ei, Option.some.injEq] at q2
            subst q2
            obtain ⟨a, o1, o2, _⟩ := w2
            exact ⟨a, by simp only [ownA, ej, ei]; exact o1, o2.mono fun b hb => hb.inA⟩
          | io d =>
            simp only [ei, Option.some.injEq] at q2
            subst q2
            obtain ⟨a, o1, o2⟩ := w2
            exact ⟨a, by simp only [ownA, ej, ei]; exact o1, o2.mono fun b hb => hb.inA⟩
          | lk d =>
            simp only [ei, Option.some.injEq] at q2
            subst q2
            obtain ⟨a, o1, o2⟩ := w2
            exact ⟨a, by simp only [ownA, ej, ei]; exact o1, o2.mono fun b hb => hb.inA⟩
          | ex a c =>
            simp only [ei, Option.some.injEq] at q2
            subst q2
            exact w2
/-- who may be changed by the callee -/
theorem wr_entry {b : Addr} (e1 : argSls ρ as = some ss) (h : Wr (ownA ρ own as) (entry ss k) b) : ∃ (i j : Nat) (s : Sl), as[j]? = some (.pl i) ∧ ρ[i]? = some (some s) ∧ s.wr = true ∧ own i = some b := by
  obtain ⟨j, s, q1, q2, q3⟩ := h
  obtain ⟨i, t, r1, r2, r3, r4⟩ := ownA_some q1
  obtain ⟨l1, g1⟩ := argSls_get e1
  obtain ⟨s', w1, w2⟩ := g1 j _ r1
  rw [entry_get q2] at w1
  cases w1
  refine ⟨i, j, t, r1, r2, ?_, r3⟩
  simp only [argSl, r2] at w2
  cases t with
  | ow d => rfl
  | io d => rfl
  | sh d => simp only [Option.some.injEq] at w2; subst w2; exact q3
  | lk d => simp only [Option.some.injEq] at w2; subst w2; exact q3
  | ex a c => simp only [Option.some.injEq] at w2; subst w2; exact q3
theorem call_back {P : Addr → Prop} (hP : ∀ b, H b ≠ none → P b) (p : Pre K al own ρ σ H) (e1 : argSls ρ as = some ss) (ao : ArgsOk K H al own σ as vs) (q : Pre K (fun b => Zf al own b ∧ P b) own' ρ' σ' H') (s : Stp (ownA ρ own as) (entry ss k) H own' ρ' H') (hPf : ∀ b, H' b = none → P b) (eb : backA as ρ' ρ = some ρ2) :
    Pre K (fun b => al b ∧ P b) own ρ2 σ H' ∧ Stp own ρ H own ρ2 H' := by
  obtain ⟨l1, g1⟩ := argSls_get e1
  obtain ⟨l2, g2⟩ := ao.get
  obtain ⟨lb, gb⟩ := backA_slot eb
  -- an updated slot
  have up : ∀ (i j : Nat) (d' : PyData) (s0 : Sl), as[j]? = some (.pl i) → ρ'[j]? = some (some (.io d')) → ρ[i]? = some (some s0) → s0.wr = true → ∃ v a, σ[i]? = some (some v) ∧ own i = some a ∧ OwV K H' (Zf (fun b => al b ∧ P b) own) v d' a ∧ ((∃ d, s0 = .ow d) → al a ∧ P a) := by
    intro i j d' s0 h1 h2 h3 h4
    obtain ⟨v, w1, w2⟩ := p.sl i s0 h3
    obtain ⟨v', u1, a', u2, u3⟩ := q.sl j _ h2
    obtain ⟨t, g3, g4⟩ := g1 j _ h1
    have et : ∃ d, t = .io d := by
      simp only [argSl, h3] at g4
      cases s0 with
      | sh d => cases h4
      | lk d => cases h4
      | ex a c => cases h4
      | ow d => exact ⟨d, by simpa using g4.symm⟩
      | io d => exact ⟨d, by simpa using g4.symm⟩
    obtain ⟨d, rfl⟩ := et
    have oo := (s.io j d (entry_of g3)).2
    have ow' : ownA ρ own as j = own i := by
      simp only [ownA, h1, h3]
      cases s0 with
      | sh d => cases h4
      | lk d => rfl
      | ex a c => cases h4
      | ow d => rfl
      | io d => rfl
    rw [u2, ow'] at oo
    have Zm : ∀ b, Zf (fun b => Zf al own b ∧ P b) own' b → Zf (fun b => al b ∧ P b) own b := fun b hb => ⟨⟨hb.1.1.1, hb.1.2⟩, hb.1.1.2⟩
    have fin : ∀ a, own i = some a → v = .ref a → ∃ a, σ[i]? = some (some v) ∧ own i = some a ∧ OwV K H' (Zf (fun b => al b ∧ P b) own) v d' a := fun a ea ev => by
      rw [ea] at oo
      have oo : a' = a := Option.some.inj oo
      subst oo
      refine ⟨a', w1, ea, ?_⟩
      obtain ⟨z1, z2⟩ := u3
      subst z1
      subst ev
      exact OwV.mono ⟨rfl, z2⟩ Zm
    cases s0 with
    | sh d => cases h4
    | lk d => cases h4
    | ex a c => cases h4
    | ow d =>
      obtain ⟨a, x1, x2, x3⟩ := w2
      obtain ⟨a2, y1, y2, y3⟩ := fin a x1 x2.1
      rw [x1] at y2
      cases y2
      obtain ⟨o, yo, _⟩ := p.mu i a x1
      exact ⟨v, a, y1, x1, y3, fun _ => ⟨x3, hP a (by rw [yo]; exact fun z => nomatch z)⟩⟩
    | io d =>
      obtain ⟨a, x1, x2⟩ := w2
      obtain ⟨a2, y1, y2, y3⟩ := fin a x1 x2.1
      exact ⟨v, a2, y1, y2, y3, fun ⟨_, z⟩ => nomatch z⟩
  have nofree : ∀ b, Zf al own b → ¬ Wr (ownA ρ own as) (entry ss k) b := fun b z w => by
    obtain ⟨i, _, _, _, _, _, e⟩ := wr_entry e1 w
    exact z.2 i e
  have mtt : ∀ b, Wr (ownA ρ own as) (entry ss k) b → ∃ o, H b = some o ∧ Mut (some o) := fun b w => by
    obtain ⟨i, _, _, _, _, _, e⟩ := wr_entry e1 w
    exact p.mu i b e
  have zz : ∀ b, Zf al own b → H b ≠ none → Zf (fun b => al b ∧ P b) own b := fun b z n => ⟨⟨z.1, hP b n⟩, z.2⟩
  -- an owned list that the callee may not change
  have keepO : ∀ {v : V} {d : PyData} {a : Addr}, OwV K H (Zf al own) v d a → ¬ Wr (ownA ρ own as) (entry ss k) a → OwV K H' (Zf (fun b => al b ∧ P b) own) v d a := by
    rintro v d a ⟨e, ⟨xs, ds, bs, h1, h2, h3, h4⟩ | ⟨xs, ds, bs, h1, h2, h3, h4⟩⟩ nw
    · exact ⟨e, .inl ⟨xs, ds, bs, h1, s.keep a _ h2 nw, RpA.keep s.keep mtt _ _ _ h3 fun b hb => nofree b (h4 b hb), fun b hb => zz b (h4 b hb) (RpA.there _ _ _ h3 b hb)⟩⟩
    · exact ⟨e, .inr ⟨xs, ds, bs, h1, s.keep a _ h2 nw, RpK.keep s.keep mtt _ _ _ h3 fun b hb => nofree b (h4 b hb), fun b hb => zz b (h4 b hb) (RpK.there _ _ _ h3 b hb)⟩⟩
  have noWr : ∀ i a t, own i = some a → ρ[i]? = some (some t) → (∀ j : Nat, as[j]? = some (.pl i) → ∀ s, ρ[i]? = some (some s) → s.wr = false) → ¬ Wr (ownA ρ own as) (entry ss k) a := fun i a t ea et hn w => by
    obtain ⟨i', j, t', r1, r2, r3, r4⟩ := wr_entry e1 w
    have := p.inj _ _ _ r4 ea
    subst this
    rw [hn j r1 _ r2] at r3
    cases r3
  have up_of : ∀ i a, own i = some a → ∃ o, H' a = some o ∧ Mut (some o) := fun i a ea => by
    obtain ⟨o, x1, x2⟩ := p.mu i a ea
    by_cases hw : Wr (ownA ρ own as) (entry ss k) a
    · obtain ⟨i', j, t', r1, r2, r3, r4⟩ := wr_entry e1 hw
      rcases gb i' with ⟨j', d', s0, q1, q2, q3, q4, q5⟩ | ⟨_, q2⟩
      · obtain ⟨v, a', _, y2, y3, _⟩ := up i' j' d' s0 q1 q2 q3 q4
        rw [r4] at y2
        cases y2
        obtain ⟨_, ⟨_, _, _, _, z, _⟩ | ⟨_, _, _, _, z, _⟩⟩ := y3
        · exact ⟨_, z, trivial⟩
        · exact ⟨_, z, trivial⟩
      · rw [q2 j r1 _ r2] at r3
        cases r3
    · exact ⟨o, s.keep a o x1 hw, x2⟩
  refine ⟨⟨fun b h => ⟨p.fr b (s.dom b h), hPf b h⟩, p.inj, up_of, by rw [lb]; exact p.len, fun i t ht => ?_⟩, ⟨fun b o h hw => s.keep b o h fun w => ?_, s.dom, fun i a e => .inl ⟨i, e⟩, fun b ⟨i, t, x1, x2, x3⟩ => .inl ?_, fun i d e => ⟨?_, rfl⟩, fun i d e => ⟨?_, rfl⟩, lb⟩⟩
  · rcases gb i with ⟨j, d', s0, q1, q2, q3, q4, q5⟩ | ⟨q1, q2⟩
    · obtain ⟨v, a, y1, y2, y3, y4⟩ := up i j d' s0 q1 q2 q3 q4
      rw [q5] at ht
      cases ht
      refine ⟨v, y1, ?_⟩
      cases s0 with
      | sh d => cases q4
      | lk d => cases q4
      | ex a c => cases q4
      | ow d => exact ⟨a, y2, y3, y4 ⟨d, rfl⟩⟩
      | io d => exact ⟨a, y2, y3⟩
    · rw [q1] at ht
      obtain ⟨v, w1, w2⟩ := p.sl i t ht
      refine ⟨v, w1, ?_⟩
      cases t with
      | sh d =>
        obtain ⟨bs, r, z⟩ := w2
        exact ⟨bs, Rp.keep s.keep mtt _ _ _ r fun b hb => nofree b (z b hb), fun b hb => zz b (z b hb) (Rp.there _ _ _ r b hb)⟩
      | ow d =>
        obtain ⟨a, x1, x2, x3⟩ := w2
        obtain ⟨o, yo, _⟩ := p.mu i a x1
        exact ⟨a, x1, keepO x2 (noWr i a _ x1 ht q2), x3, hP a (by rw [yo]; exact fun z => nomatch z)⟩
      | io d =>
        obtain ⟨a, x1, x2⟩ := w2
        exact ⟨a, x1, keepO x2 (noWr i a _ x1 ht q2)⟩
      | lk d =>
        obtain ⟨a, x1, x2⟩ := w2
        exact ⟨a, x1, keepO x2 (noWr i a _ x1 ht q2)⟩
      | ex a c => exact w2
  · obtain ⟨i, j, t, r1, r2, r3, r4⟩ := wr_entry e1 w
    exact hw ⟨i, t, r4, r2, r3⟩
  · rcases gb i with ⟨j, d', s0, q1, q2, q3, q4, q5⟩ | ⟨q1, q2⟩
    · exact ⟨i, s0, x1, q3, q4⟩
    · exact ⟨i, t, x1, by rw [← q1]; exact x2, x3⟩
  · rcases gb i with ⟨j, d', s0, q1, q2, q3, q4, q5⟩ | ⟨q1, q2⟩
    · rw [e] at q3; cases q3; cases q4
    · rw [q1]; exact e
  · rcases gb i with ⟨j, d', s0, q1, q2, q3, q4, q5⟩ | ⟨q1, q2⟩
    · rw [e] at q3; cases q3; exact ⟨d', q5⟩
    · exact ⟨d, by rw [q1]; exact e⟩
theorem semCall {F : FnV} {n : Nat} {os : List Opd} {Q : VK} (hn : ∀ as ρ1, evOs os ρ = .ok as ρ1 → as.length = n) (p : Pre K al own ρ σ H) (h : match evCall F os ρ with
    | .ok r ρ' => OkE K al own ρ σ H Q r ρ'
    | .exc c ρ' => ExE K W al own ρ σ H c ρ'
    | .stuck => False) : SemOs K W os σ H fun vs H' => spV K n k F vs H' Q (fun cls d H' => W cls d σ H') := by
  refine ⟨al, own, ρ, p, ?_⟩
  simp only [evCall] at h
  cases e : evOs os ρ with
  | stuck => simp only [e] at h
  | exc c ρ1 => simp only [e] at h ⊢; exact h
  | ok as ρ1 =>
    simp only [e] at h ⊢
    intro vs H1 own1 p1 s1 ao
    cases e2 : argSls ρ1 as with
    | none => simp only [e2] at h
    | some ss =>
      simp only [e2] at h
      by_cases e3 : apart ρ1 as = true
      · rw [if_pos e3] at h
        refine ⟨by rw [ao.get.1]; exact hn as ρ1 e, _, _, ss, call_pre p1 e2 e3 ao, ?_⟩
        cases e4 : F ss with
        | stuck => simp only [e4] at h
        | brk ρ' => simp only [e4] at h
        | cont ρ' => simp only [e4] at h
        | exc c ρ' =>
          simp only [e4] at h
          cases e5 : backA as ρ' ρ1 with
          | none => simp only [e5] at h
          | some ρ2 =>
            simp only [e5] at h
            intro σ' H' own' q s
            obtain ⟨p2, s2⟩ := call_back (P := fun _ => True) (fun _ _ => trivial) p1 e2 ao (q.mono fun b hb => ⟨hb, trivial⟩) s (fun _ _ => trivial) e5
            exact h H' own1 (p2.mono fun b hb => hb.1) (s1.trans s2)
        | next ρ' =>
          simp only [e4] at h
          cases e5 : backA as ρ' ρ1 with
          | none => simp only [e5] at h
          | some ρ2 =>
            simp only [e5] at h
            intro σ' H' own' q s
            obtain ⟨p2, s2⟩ := call_back (P := fun _ => True) (fun _ _ => trivial) p1 e2 ao (q.mono fun b hb => ⟨hb, trivial⟩) s (fun _ _ => trivial) e5
            exact h .non H' own1 [] (p2.mono fun b hb => hb.1) (s1.trans s2) .non (fun _ z => nomatch z)
        | ret r ρ' =>
          simp only [e4] at h
          cases e5 : backA as ρ' ρ1 with
          | none => simp only [e5] at h
          | some ρ2 =>
            simp only [e5] at h
            cases r with
            | sh d =>
              intro v σ' H' own' bs q s r z
              obtain ⟨p2, s2⟩ := call_back (P := fun _ => True) (fun _ _ => trivial) p1 e2 ao (q.mono fun b hb => ⟨hb, trivial⟩) s (fun _ _ => trivial) e5
              exact h v H' own1 bs (p2.mono fun b hb => hb.1) (s1.trans s2) r fun b hb => (z b hb).1
            | ow d =>
              intro v σ' H' own' a q s o ha hf hw
              have hna : H1 a = none := hw.elim id fun w => by
                obtain ⟨i, _, _, _, _, _, e⟩ := wr_entry e2 w
                exact (ha.2 i e).elim
              obtain ⟨p2, s2⟩ := call_back (P := fun b => b ≠ a) (fun b hb q => hb (q ▸ hna)) p1 e2 ao q s (fun b hb => (q.fr b hb).2) e5
              exact h v H' own1 a p2 (s1.trans s2) (o.mono fun b hb => ⟨⟨hb.1.1.1, hb.1.2⟩, hb.1.1.2⟩) ha.1 ha.2 (.inl (s1.dom _ hna))
      · rw [if_neg e3] at h; exact h.elim
theorem evOs_length : ∀ {os : List Opd} {ρ ρ1 : Env} {as : List Arg}, evOs os ρ = .ok as ρ1 → as.length = os.length
  | [], ρ, ρ1, as, h => by simp only [evOs, Out.ok.injEq] at h; rw [← h.1]; rfl
  | o :: os, ρ, ρ1, as, h => by
    simp only [evOs] at h
    split at h
    · split at h
      · rename_i h2
        simp only [Out.ok.injEq] at h
        rw [← h.1]
        simp [evOs_length h2]
      · cases h
      · cases h
    · cases h
    · cases h
theorem semCall' {F : FnV} {n : Nat} {os : List Opd} {Q : VK} (hn : os.length = n) (h : SemE K W (evCall F os) σ H Q) : SemOs K W os σ H fun vs H' => spV K n k F vs H' Q (WE W σ) := by
  obtain ⟨al, own, ρ, p, h⟩ := h
  exact semCall (fun as ρ1 e => by rw [evOs_length e, hn]) p h
end
end
end Ev
set_option Elab.async false
set_option linter.all false
set_option autoImplicit false
set_option maxRecDepth 100000
/-! Ev13: a def known by name; calls by position and by name; raise; try. -/
namespace Ev
open PySem PySem.Spec L2
open PyProof.Rows hiding St
noncomputable section
/-- the global x is a def of the text with n parameters and k further names, doing F at call depth lv -/
def Kn (P : Program) (w : World) (K : PySem.W.Frag) (mg : Str → Option Value) (base : Heap) (lv : Nat) (x : Str) (ps : List Str) (k : Nat) (F : FnV) : Prop :=
  ∃ (f : Addr) (fd : FuncData), FnG P w K mg base (L2.CX P w) lv f fd ps (spV K ps.length k F) ∧ mg x = some (.ref f) ∧ PySem.W.keepIn K (.ref f) = true ∧
    (∀ us : List Value, us.length = ps.length → bindArgs fd ⟨us, []⟩ = pure (ps.zip us)) ∧ ∀ us ws : List Value, (us ++ ws).length = ps.length → bindArgs fd ⟨us, (ps.drop us.length).zip ws⟩ = pure (ps.zip (us ++ ws))
theorem Kn.mono {P : Program} {w : World} {K : PySem.W.Frag} {mg : Str → Option Value} {base : Heap} {lv lv' : Nat} {x : Str} {ps : List Str} {k : Nat} {F : FnV} (h : Kn P w K mg base lv x ps k F) (l : lv ≤ lv') : Kn P w K mg base lv' x ps k F := by
  obtain ⟨f, fd, h1, h2⟩ := h
  exact ⟨f, fd, h1.mono l, h2⟩
section
variable {K : PySem.W.Frag} {W : WX} {al al' : Addr → Prop} {own own' own1 : Own} {ρ ρ' ρ1 ρ2 : Env} {σ σ1 σ' : St} {H H' H1 : Hp} {X : Cx} {pos p : Pos} {D : Ends} {x : Str} {e : Expr} {es : List Expr} {os os2 : List Opd} {lv k : Nat} {ps : List Str} {F : FnV}
theorem pe_fn (kn : Kn X.prog X.w X.K X.mg X.base lv x ps k F) (hr : RoomG lv X.A) (hg : Gl X x) (tk : Takes X W) (ha : PA X (e :: es) (SemOs X.K W os)) (hn : os.length = ps.length := by rfl)
    (hdb : (x == ("__debug__" : Str)) = false := by decide) (he : starEach (e :: es) X.env = (false, eval e X.env) :: starEach es X.env := by rfl) (hpl : (backTo pos (starEach es X.env)).any (·.1) = false := by rfl) :
    PE X (.Call (.Name x p) (e :: es) [] pos) (SemE X.K W (evCall F os)) := by
  obtain ⟨f, fd, h1, h2, h3, h4, h5⟩ := kn
  exact PE.imp (pe_callG h1 hr hg h2 h3 (.all h4) (passAt tk) ha hdb he hpl) fun σ H Q h => semCall' hn h
theorem pe_fn0 (kn : Kn X.prog X.w X.K X.mg X.base lv x ps k F) (hr : RoomG lv X.A) (hg : Gl X x) (tk : Takes X W) (hn : ps = [] := by rfl) (hdb : (x == ("__debug__" : Str)) = false := by decide) :
    PE X (.Call (.Name x p) [] [] pos) (SemE X.K W (evCall F [])) := by
  obtain ⟨f, fd, h1, h2, h3, h4, h5⟩ := kn
  subst hn
  refine ⟨fun pins s σ H Q I h => ?_⟩
  have q := semOs_nil (semCall' (k := k) (n := 0) rfl h)
  refine wpAny_Call_Name_kw (ld_glob I hg h2 ?_ hdb)
  exact PySem.W.callWith_K0 I.kIn h3 (run_gp h1 hr (.all h4) (passAt tk σ) I .nil q)
/-! by name, in the parameters' order -/
theorem semOs_app : ∀ {os os2 : List Opd} {σ : St} {H : Hp} {R : List V → Hp → Prop}, SemOs K W (os ++ os2) σ H R → (match os with
    | [] => SemOs K W os2 σ H R
    | o :: os => tCons (SemO K W o) (SemOs K W (os ++ os2)) σ H R)
  | [], os2, σ, H, R, h => h
  | o :: os, os2, σ, H, R, h => semOs_cons h
def tMany (K : PySem.W.Frag) (W : WX) : List Opd → TA
  | [] => tNil
  | o :: os => tCons (SemO K W o) (tMany K W os)
theorem TE.mono' {o : Opd} {Q Q' : VK} (h : SemO K W o σ H Q) (i : ∀ v H, Q v H → Q' v H) : SemO K W o σ H Q' := SemO.mono h i
theorem tMany_app : ∀ {os os2 : List Opd} {H : Hp} {R : List V → Hp → Prop}, SemOs K W (os ++ os2) σ H R → tMany K W os σ H fun vs H1 => SemOs K W os2 σ H1 fun zs H2 => R (vs ++ zs) H2
  | [], os2, H, R, h => h
  | o :: os, os2, H, R, h => SemO.mono (semOs_cons h) fun v H1 q => tMany_app q
theorem tMany_of : ∀ {os : List Opd} {H : Hp} {R : List V → Hp → Prop}, SemOs K W os σ H R → tMany K W os σ H R
  | [], H, R, h => semOs_nil h
  | o :: os, H, R, h => SemO.mono (semOs_cons h) fun v H1 q => tMany_of q
theorem pk_0 : PK X [] (tMany X.K W []) := pk_nil
theorem pk_1 {o : Opd} {nm : Option Str} {kpos : Pos} {kws : List Keyword} (ha : PE X e (SemO X.K W o)) (hr : PK X kws (tMany X.K W os)) : PK X (⟨nm, e, kpos⟩ :: kws) (tMany X.K W (o :: os)) := pk_cons ha hr
theorem pa_m0 : PA X [] (tMany X.K W []) := pa_nil
theorem pa_m {o : Opd} (ha : PE X e (SemO X.K W o)) (hr : PA X es (tMany X.K W os)) (hs : starEach (e :: es) X.env = (false, eval e X.env) :: starEach es X.env := by rfl) : PA X (e :: es) (tMany X.K W (o :: os)) := pa_cons ha hr hs
variable {kws : List Keyword}
theorem run_kw {f : Addr} {fd : FuncData} {sp : Sp} {pins : List (Addr × Obj)} {s : Shared} {Q : VK} {us ws : List Value} {vs zs : List V} {ks : List Str} (F : FnG X.prog X.w X.K X.mg X.base (L2.CX X.prog X.w) lv f fd ps sp) (hr : RoomG lv X.A)
    (h5 : ∀ us ws : List Value, (us ++ ws).length = ps.length → bindArgs fd ⟨us, (ps.drop us.length).zip ws⟩ = pure (ps.zip (us ++ ws))) (hks : ps.drop us.length = ks) (tk : Takes X W) (I : Inv X pins σ H s) (r : Vals vs us) (rz : Vals zs ws) (h : sp (vs ++ zs) H Q (WE W σ)) :
    wpAny (model X.prog X.w) X.A (call (.ref f) us (ks.zip ws)) (EP X pins σ Q) X.xe s := by
  have r2 : Vals (vs ++ zs) (us ++ ws) := r.append rz
  have hl : (us ++ ws).length = ps.length := by rw [← r2.length]; exact F.ln _ _ _ _ h
  subst hks
  refine wpAny_call (codeAny_mono (F.go X.A X.stack s H ⟨us, (ps.drop us.length).zip ws⟩ (us ++ ws) (vs ++ zs) Q (WE W σ) hr I.env0 (.of_eq (h5 us ws hl)) r2 h) fun r s' hq => ?_)
  cases r with
  | error e => exact passAt tk σ pins H s e s' I hq
  | ok fl =>
    cases fl with
    | ret u => exact I.after hq
    | next => exact False.elim hq
    | brk => exact False.elim hq
    | cont => exact False.elim hq
theorem tMany_len : ∀ {os : List Opd} {H : Hp} {R : List V → Hp → Prop}, tMany K W os σ H R → tMany K W os σ H fun vs H1 => vs.length = os.length ∧ R vs H1
  | [], H, R, h => ⟨rfl, h⟩
  | o :: os, H, R, h => SemO.mono (K := K) (W := W) (o := o) h fun v H1 q => by
      have z := tMany_len (os := os) q
      exact tMany_mono z fun vs H2 ⟨l, q⟩ => ⟨by simp [l], q⟩
where tMany_mono : ∀ {os : List Opd} {H : Hp} {R R' : List V → Hp → Prop}, tMany K W os σ H R → (∀ vs H, R vs H → R' vs H) → tMany K W os σ H R'
  | [], H, R, R', h, i => i _ _ h
  | o :: os, H, R, R', h, i => SemO.mono (K := K) (W := W) (o := o) h fun v H1 q => tMany_mono (os := os) q fun vs H2 q => i _ _ q
theorem pe_fnK (kn : Kn X.prog X.w X.K X.mg X.base lv x ps k F) (hr : RoomG lv X.A) (hg : Gl X x) (tk : Takes X W) (ha : PA X (e :: es) (tMany X.K W os)) (hkw : PK X kws (tMany X.K W os2)) (hn : (os ++ os2).length = ps.length := by rfl)
    (hks : (backToKw pos (keywordEach kws X.env)).filterMap (·.1) = ps.drop os.length := by rfl) (hall : (backToKw pos (keywordEach kws X.env)).all (·.1.isSome) = true := by rfl)
    (hdb : (x == ("__debug__" : Str)) = false := by decide) (he : starEach (e :: es) X.env = (false, eval e X.env) :: starEach es X.env := by rfl)
    (hpl : ((backTo pos (starEach (e :: es) X.env)).any (·.1) || (backToKw pos (keywordEach kws X.env)).any (·.1.isNone)) = false := by rfl) :
    PE X (.Call (.Name x p) (e :: es) kws pos) (SemE X.K W (evCall F (os ++ os2))) := by
  obtain ⟨f, fd, h1, h2, h3, h4, h5⟩ := kn
  refine ⟨fun pins s σ H Q I h => ?_⟩
  have h := tMany_len (tMany_app (semCall' (k := k) hn h))
  refine wpAny_Call_Name_kw (ld_glob I hg h2 ?_ hdb)
  refine PySem.W.callWith_KW (h₀ := X.base) I.ok.mod.kin h3 hall (thn (ha.run pos pins s σ H _ I h) fun us s1 ⟨vs, H1, I1, r, l, q⟩ => ?_) hpl he
  refine thn (hkw.run pos pins s1 σ H1 _ I1 (tMany_of q)) fun ws s2 ⟨zs, H2, I2, rz, q2⟩ => ⟨I2.kIn, ?_⟩
  rw [hks]
  exact run_kw h1 hr h5 (by rw [List.nil_append, ← r.length, l]) tk I2 r rz q2
theorem pe_fnK0 (kn : Kn X.prog X.w X.K X.mg X.base lv x ps k F) (hr : RoomG lv X.A) (hg : Gl X x) (tk : Takes X W) (hkw : PK X kws (tMany X.K W os2)) (hn : os2.length = ps.length := by rfl)
    (hks : (backToKw pos (keywordEach kws X.env)).filterMap (·.1) = ps := by rfl) (hall : (backToKw pos (keywordEach kws X.env)).all (·.1.isSome) = true := by rfl)
    (hdb : (x == ("__debug__" : Str)) = false := by decide) (hpl : ((backTo pos (starEach [] X.env)).any (·.1) || (backToKw pos (keywordEach kws X.env)).any (·.1.isNone)) = false := by rfl) (hno : kws.isEmpty = false := by rfl) :
    PE X (.Call (.Name x p) [] kws pos) (SemE X.K W (evCall F os2)) := by
  obtain ⟨f, fd, h1, h2, h3, h4, h5⟩ := kn
  refine ⟨fun pins s σ H Q I h => ?_⟩
  have h := semCall' (k := k) hn h
  refine wpAny_Call_Name_kw (ld_glob I hg h2 ?_ hdb)
  refine PySem.W.callWith_KW0 (h₀ := X.base) I.ok.mod.kin h3 hall ?_ hpl
  refine thn (hkw.run pos pins s σ H _ I (tMany_of h)) fun ws s2 ⟨zs, H2, I2, rz, q2⟩ => ⟨I2.kIn, ?_⟩
  rw [hks]
  exact run_kw (vs := []) (us := []) h1 hr h5 rfl tk I2 .nil rz q2
/-! ### a def of the text -/
theorem fnok_of {P : Program} {w : World} {mg : Str → Option Value} {base : Heap} {f : Addr} {fd : FuncData} {qual : Str} {params : Arguments} {body : List Stmt} {scope : Scope} {N : List Str} {fb : EvS} (Fd : FunD K x qual params body scope [] [] f fd) (S : FnScope N ps scope)
    (hb : ∀ (cdv : Value) (A : Around) (outer : List PySem.Env) (s : Shared) (H : Hp) (E : XK), RoomG lv (A.deeper (envOfC qual scope s.heap.objs.size f cdv)) →
      PSs (cxOf (L2.CX P w) P w K mg base N qual scope f cdv A outer s H E) body (SemS K (fun cls d _ H' => E cls d H') fb)) :
    FnG P w K mg base (L2.CX P w) (lv + 1) f fd ps (spV K ps.length (N.length - ps.length) (mkF (N.length - ps.length) fb)) := by
  refine fng_of Fd S (fun vs H Q E h => h.1) fun cdv A outer s H vs Q E hr h => ⟨_, hb cdv A outer s H E hr, ?_⟩
  obtain ⟨hl, Z, own, ss, p, h⟩ := h
  unfold L2.start
  rw [hl]
  refine ⟨Z, own, _, p, ?_⟩
  have h := FnQ.untrim h
  cases e : fb (entry ss (N.length - ps.length)) with
  | next ρ' => rw [e] at h; exact h
  | ret r ρ' => rw [e] at h; exact h
  | exc c ρ' => rw [e] at h; exact h
  | brk ρ' => rw [e] at h; exact h.elim
  | cont ρ' => rw [e] at h; exact h.elim
  | stuck => rw [e] at h; exact h.elim
theorem kn_of {P : Program} {w : World} {mg : Str → Option Value} {base : Heap} {f : Addr} {fd : FuncData} {qual : Str} {params : Arguments} {body : List Stmt} {scope : Scope} {N : List Str} {fb : EvS} (Fd : FunD K x qual params body scope [] [] f fd) (gx : mg x = some (.ref f)) (S : FnScope N ps scope)
    (h4 : ∀ (kV doc pm : Value) (an : Option Addr) (cdv ct : Value) (us : List Value), us.length = ps.length → bindArgs (PySem.W.fnOf x qual params body scope .none kV doc pm an cdv ct) ⟨us, []⟩ = pure (ps.zip us))
    (h5 : ∀ (kV doc pm : Value) (an : Option Addr) (cdv ct : Value) (us ws : List Value), (us ++ ws).length = ps.length → bindArgs (PySem.W.fnOf x qual params body scope .none kV doc pm an cdv ct) ⟨us, (ps.drop us.length).zip ws⟩ = pure (ps.zip (us ++ ws)))
    (hb : ∀ (cdv : Value) (A : Around) (outer : List PySem.Env) (s : Shared) (H : Hp) (E : XK), RoomG lv (A.deeper (envOfC qual scope s.heap.objs.size f cdv)) →
      PSs (cxOf (L2.CX P w) P w K mg base N qual scope f cdv A outer s H E) body (SemS K (fun cls d _ H' => E cls d H') fb)) :
    Kn P w K mg base (lv + 1) x ps (N.length - ps.length) (mkF (N.length - ps.length) fb) := by
  refine ⟨f, fd, fnok_of Fd S hb, gx, Fd.kp, ?_, ?_⟩
  · obtain ⟨oc, od, dV, kV, doc, pm, an, cdv, ct, osl, rfl, lk, hcd, hD, hK⟩ := Fd.ex
    rcases hD with ⟨_, rfl⟩ | ⟨e, _⟩
    · exact h4 kV doc pm an cdv ct
    · exact absurd rfl e
  · obtain ⟨oc, od, dV, kV, doc, pm, an, cdv, ct, osl, rfl, lk, hcd, hD, hK⟩ := Fd.ex
    rcases hD with ⟨_, rfl⟩ | ⟨e, _⟩
    · exact h5 kV doc pm an cdv ct
    · exact absurd rfl e
/-- what a def may raise is taken -/
theorem takes_fn {P : Program} {w : World} {mg : Str → Option Value} {base : Heap} {N : List Str} {qual : Str} {scope : Scope} {f : Addr} {cdv : Value} {A : Around} {outer : List PySem.Env} {s : Shared} {E : XK} (hf : (envOfC qual scope s.heap.objs.size f cdv).frame = some (envOfC qual scope s.heap.objs.size f cdv).locals := by rfl) :
    Takes (cxOf (L2.CX P w) P w K mg base N qual scope f cdv A outer s H E) (fun cls d _ H' => E cls d H') := takes_of rfl hf rfl rfl
theorem passes_fn {P : Program} {w : World} {mg : Str → Option Value} {base : Heap} {N : List Str} {qual : Str} {scope : Scope} {f : Addr} {cdv : Value} {A : Around} {outer : List PySem.Env} {s : Shared} {E : XK} :
    PassesOwn (model P w) (cxOf (L2.CX P w) P w K mg base N qual scope f cdv A outer s H E).A (cxOf (L2.CX P w) P w K mg base N qual scope f cdv A outer s H E).env (cxOf (L2.CX P w) P w K mg base N qual scope f cdv A outer s H E).xe := PassesOwn.leaving
end
end
end Ev
set_option Elab.async false
set_option linter.all false
set_option autoImplicit false
set_option maxRecDepth 100000
/-! Ev14: isinstance; raise; try. -/
namespace Ev
open PySem PySem.Spec L2
open PyProof.Rows hiding St
noncomputable section
/-! ### isinstance of plain data -/
def tyD : PyData → String
  | .none => "NoneType"
  | .bool _ => "bool"
  | .int _ => "int"
  | .str _ => "str"
  | .list _ => "list"
  | .tuple _ => "tuple"
  | .dict _ => "dict"
def isTy (t T : String) : Bool := t == T || (t == "bool" && T == "int")
def pIsi (T : String) : List PyData → Option Res
  | [d] => some (.sh (.bool (isTy (tyD d) T)))
  | _ => none
def pIsiT (Ts : List String) : List PyData → Option Res
  | [d] => some (.sh (.bool (Ts.any (isTy (tyD d)))))
  | _ => none
def tyNames : List String := ["NoneType", "bool", "int", "str", "list", "tuple", "dict"]
section
variable {K : PySem.W.Frag} {W : WX} {al al' : Addr → Prop} {own own' own1 : Own} {ρ ρ' ρ1 ρ2 : Env} {σ σ1 σ' : St} {H H' H1 : Hp} {X : Cx} {pos p : Pos} {D : Ends}
theorem kit_ty0 : (tyNames.all fun t => (["bool", "int", "str", "list", "tuple", "dict"] : List String).all fun T => decide (PySem.W.kitOne [] (.type t) (.type T) = some (isTy t T))) = true := by decide +kernel
theorem kit_ty {t T : String} (ht : t ∈ tyNames) (hT : T ∈ ["bool", "int", "str", "list", "tuple", "dict"]) : PySem.W.kitOne K (.type t) (.type T) = some (isTy t T) := by
  have h := List.all_eq_true.mp (List.all_eq_true.mp kit_ty0 t ht) T hT
  have h := of_decide_eq_true h
  rw [← h]
  rfl
theorem tyD_mem (d : PyData) : tyD d ∈ tyNames := by cases d <;> simp [tyD, tyNames]
theorem Rp.ty {v : V} {d : PyData} {as : List Addr} (r : Rp K H v d as) : TyX K H v (.type (tyD d)) := by
  cases r with
  | non => exact .base .non
  | bl b => exact .base (.bl b)
  | int i => exact .base (.int i)
  | str x => exact .base (.str x)
  | lst h1 h2 =>
    rcases h1 with h1 | ⟨o, h1⟩
    · exact .base (.lst h1)
    · exact .base (.frz h1)
  | lsk h1 h2 => obtain ⟨o, its, n, e, c, _⟩ := h1; exact .kList e c
  | tup h1 h2 =>
    rcases h1 with (h1 | ⟨o, h1⟩) | ⟨o, its, n, e, c, _⟩
    · exact .base (.tup h1)
    · exact .fTuple h1
    · exact .kTuple e c
  | dic h1 h2 =>
    rcases h1 with h1 | ⟨o, h1⟩
    · exact .base (.dK h1)
    · exact .fDict h1
def rIsi1 (K : PySem.W.Frag) (T : String) : List V → Hp → VK → Prop := fun vs H Q => ∃ x, vs = [x] ∧ rIsi K [x, .ty T] H Q
theorem ok_isi {T : String} (hT : T ∈ ["bool", "int", "str", "list", "tuple", "dict"]) : PmOk K (rIsi1 K T) (pIsi T) := by
  intro Z H vs ds res Q hv h q
  unfold pIsi at h
  split at h
  · rename_i d
    cases h
    obtain ⟨x, rfl, hx⟩ := hv.one
    obtain ⟨as, r⟩ := hx.rp
    exact ⟨x, rfl, x, .ty T, _, _, _, rfl, .ty T, r.ty, kit_ty (tyD_mem d) hT, q.val (.bl _)⟩
  · cases h
variable {e : Expr} {o : Opd} {x : Str}
theorem pe_isi {T : String} {y : Str} {p2 : Pos} (hT : T ∈ ["bool", "int", "str", "list", "tuple", "dict"]) (ha : PE X e (SemO X.K W o)) (hg : Gl X "isinstance") (hm : X.mg "isinstance" = none) (hg2 : Gl X y) (hm2 : X.mg y = none) (hv : bootBuiltins y = some (.type T)) (hn : y ≠ "__name__" := by decide) (hd : (y == ("__debug__" : Str)) = false := by decide)
    (hs : starEach [e, .Name y p2] X.env = (false, eval e X.env) :: starEach [.Name y p2] X.env := by rfl) :
    PE X (.Call (.Name "isinstance" p) [e, .Name y p2] [] pos) (SemE X.K W (evPm (pIsi T) [o])) :=
  PE.imp (pe_callB call_isi hg hm boot_isinstance (pa_cons ha (pa_cons (pe_bltn (v := .ty T) hg2 hm2 hv rfl hn hd) pa_nil) hs) (he := hs)) fun σ H Q h => SemO.mono (sem1 (semPm (ok_isi hT) h)) fun v H1 ⟨x, e, q⟩ => by cases e; exact q
/-- a tuple of classes -/
def tysA : List String → TA
  | [] => tNil
  | T :: Ts => tCons (tC (.ty T)) (tysA Ts)
theorem tysA_of {Ts : List String} {Q : List V → Hp → Prop} (h : Q (Ts.map V.ty) H) : tysA Ts σ H Q := by
  induction Ts generalizing Q with
  | nil => exact h
  | cons T Ts ih => exact ih h
theorem pa_ty0 : PA X [] (tysA []) := pa_nil
theorem pa_ty {T : String} {Ts : List String} {y : Str} {p2 : Pos} {es : List Expr} (hr : PA X es (tysA Ts)) (hg2 : Gl X y) (hm2 : X.mg y = none) (hv : bootBuiltins y = some (.type T)) (hn : y ≠ "__name__" := by decide) (hd : (y == ("__debug__" : Str)) = false := by decide) : PA X (.Name y p2 :: es) (tysA (T :: Ts)) :=
  pa_cons (pe_bltn (v := .ty T) hg2 hm2 hv rfl hn hd) hr
theorem kit_any {t : String} (ht : t ∈ tyNames) : ∀ {Ts : List String}, (∀ T ∈ Ts, T ∈ ["bool", "int", "str", "list", "tuple", "dict"]) → PySem.W.kitAny K (.type t) (Ts.map Value.type) = some (Ts.any (isTy t))
  | [], _ => rfl
  | T :: Ts, h => by
    simp only [List.map_cons, PySem.W.kitAny, kit_ty (K := K) ht (h T (by simp)), List.any_cons]
    cases isTy t T with
    | true => rfl
    | false => simp only [Bool.false_or]; exact kit_any ht fun T hT => h T (by simp [hT])
theorem paired_ty : ∀ (Ts : List String), Paired ClsV (Ts.map V.ty) (Ts.map Value.type)
  | [] => .nil
  | T :: Ts => .cons (.ty T) (paired_ty Ts)
def rIsiT1 (K : PySem.W.Frag) (Ts : List String) : List V → Hp → VK → Prop := fun vs H Q => ∃ x, vs = [x] ∧ ∀ p, H p = none → rIsiT K [x, .ref p] (upd H p (.tup (Ts.map V.ty))) Q
theorem ok_isiT {Ts : List String} (hT : ∀ T ∈ Ts, T ∈ ["bool", "int", "str", "list", "tuple", "dict"]) : PmOk K (rIsiT1 K Ts) (pIsiT Ts) := by
  intro Z H vs ds res Q hv h q
  unfold pIsiT at h
  split at h
  · rename_i d
    cases h
    obtain ⟨x, rfl, hx⟩ := hv.one
    obtain ⟨as, r⟩ := hx.rp
    refine ⟨x, rfl, fun p hp => ⟨x, p, _, _, _, _, rfl, upd_same, paired_ty Ts, ((Grow.upd hp).rp r).ty, kit_any (tyD_mem d) hT, ?_⟩⟩
    exact q _ _ [] (Grow.upd hp) (.bl _) (fun _ z => nomatch z)
  · cases h
theorem pe_isiTs {Ts : List String} {es : List Expr} {x1 : _} {p2 : Pos} (hT : ∀ T ∈ Ts, T ∈ ["bool", "int", "str", "list", "tuple", "dict"]) (ha : PE X e (SemO X.K W o)) (hg : Gl X "isinstance") (hm : X.mg "isinstance" = none) (hes : PA X es (tysA Ts)) (hl : Ts.length ≤ 1000 := by decide)
    (hs : starEach [e, .Tuple es x1 p2] X.env = (false, eval e X.env) :: starEach [.Tuple es x1 p2] X.env := by rfl) :
    PE X (.Call (.Name "isinstance" p) [e, .Tuple es x1 p2] [] pos) (SemE X.K W (evPm (pIsiT Ts) [o])) :=
  PE.imp (pe_callB call_isiT hg hm boot_isinstance (pa_cons ha (pa_cons (pe_tup hes) pa_nil) hs) (he := hs)) fun σ H Q h => SemO.mono (sem1 (semPm (ok_isiT hT) h)) fun v H1 ⟨x, e, q⟩ => by
    cases e
    exact tysA_of ⟨by rw [List.length_map, line_eq, lineN_eq]; omega, fun p hp => q p hp⟩
/-! ### errors of the text's own classes -/
/-- a class by its name: the text's own, or a built-in error's -/
def clsV (K : PySem.W.Frag) (T : Str) : Value := if T = "ValueError" then .type "ValueError" else .ref (He.ga K T)
/-- tbl c T: is an error of class c one of class T -/
structure XF (K : PySem.W.Frag) (tbl : Str → Str → Option Bool) : Prop where
  exm : ∀ c T b, tbl c T = some b → PySem.W.exmOne K (.ref (He.ga K c)) (clsV K T) = some b
  kit : ∀ c T b, tbl c T = some b → PySem.W.kitOne K (.ref (He.ga K c)) (clsV K T) = some b
  cls : ∀ c T b, tbl c T = some b → ExcC K (He.ga K c)
def sRaise (c : Str) : EvS := fun ρ => .exc c ρ
theorem s_raise {m : Str} {j : Nat} {p1 p2 : Pos} (hc : X.calm = true) (tk : Takes X W) (q : (He.Fa.exc x).ok X.K = true) (gC : X.mg x = some (.ref (He.ga X.K x))) (hg : Gl X x) (hd : (x == ("__debug__" : Str)) = false := by decide) :
    PS X (.Raise (some (.Call (.Name x p) [.Constant (.str m) j p2] [] p1)) none pos) (SemS X.K W (sRaise x)) := by
  obtain ⟨q1, q2, q3, q4⟩ := He.exc_ok q
  exact PS.imp (ps_raise hc tk (pmk_own F.excBase_ValueError q1 gC q2 (raises_own q3 q4) hg hd)) fun D σ H ⟨al, own, ρ, p, h⟩ => h σ H own p .refl
/-! ### try -/
def clr (i : Nat) (ρ : Env) : Option Env := match ρ[i]? with
  | some s => if Sl.free s = true then some (ρ.set i none) else none
  | none => none
/-- the answer of an except clause: for errors of the classes tbl tells of -/
def evTryAs (tbl : Str → Str → Option Bool) (T : Str) (i : Nat) (fb : EvS) (fs : Str → EvS) : EvS := fun ρ => match fb ρ with
  | .exc c ρ' => (match tbl c T with
    | some true => (match clr i ρ' with
      | some ρ2 => (match fs c ρ2 with
        | .exc _ _ => .stuck
        | o => o.on fun ρ3 => ρ3.set i none)
      | none => .stuck)
    | some false => .exc c ρ'
    | none => .stuck)
  | o => o
def evTry (tbl : Str → Str → Option Bool) (T : Str) (fb : EvS) (fs : Str → EvS) : EvS := fun ρ => match fb ρ with
  | .exc c ρ' => (match tbl c T with
    | some true => (match fs c ρ' with
      | .exc _ _ => .stuck
      | o => o)
    | some false => .exc c ρ'
    | none => .stuck)
  | o => o
/-- what a suite asks of the slots: the caught error stands in slot i -/
abbrev At (i : Nat) (a : Addr) (σ : St) : Prop := σ[i]? = some (some (.ref a))
def wE (P : St → Prop) (t : TE) : TE := fun σ H Q => P σ ∧ t σ H Q
def wT (P : St → Prop) (t : TT) : TT := fun σ H Q => P σ ∧ t σ H Q
def wS (P : St → Prop) (t : TS) : TS := fun D σ H => P σ ∧ t D σ H
theorem PSs.w {P : St → Prop} {b : List Stmt} {t : TS} (h : PSs X b t) : PSs X b (wS P t) := PSs.imp h fun _ _ _ h => h.2
theorem PE.w {P : St → Prop} {t : TE} (h : PE X e t) : PE X e (wE P t) := PE.imp h fun _ _ _ h => h.2
theorem PT.w {P : St → Prop} {t : TT} (h : PT X e t) : PT X e (wT P t) := PT.imp h fun _ _ _ h => h.2
theorem exS_same {E : Str → Env → Prop} {o : OutS} (h : OkS K W al own ρ H D o) (hn : ∀ c ρ', o ≠ .exc c ρ') : OkS K WF al own ρ H D o := by
  cases o with
  | exc c r => exact (hn c r rfl).elim
  | next r => exact h
  | ret r r' => exact h
  | brk r => exact h
  | cont r => exact h
  | stuck => exact h
theorem OkS.offW {W' : WX} {o : OutS} (h : OkS K W al own ρ H D o) (hx : ∀ c ρ', o = .exc c ρ' → ExS K W' al own ρ H c ρ') : OkS K W' al own ρ H D o := by
  cases o with
  | exc c r => exact hx c r rfl
  | next r => exact h
  | ret r r' => exact h
  | brk r => exact h
  | cont r => exact h
  | stuck => exact h
theorem Pre.blank (p : Pre K al own ρ σ H) (i : Nat) (v : Option V) : Pre K al own (ρ.set i none) (σ.set i v) H := ⟨p.fr, p.inj, p.mu, by rw [List.length_set, List.length_set]; exact p.len, fun j s e => by
  rcases getElem?_set_cases e with ⟨_, e2, _⟩ | ⟨hj, e2⟩
  · cases e2
  · obtain ⟨w, h1, h2⟩ := p.sl j s e2
    exact ⟨w, by rw [List.getElem?_set_ne (Ne.symm hj)]; exact h1, h2⟩⟩
theorem Pre.blank' (p : Pre K al own ρ σ H) (i : Nat) : Pre K al own (ρ.set i none) σ H := ⟨p.fr, p.inj, p.mu, by rw [List.length_set]; exact p.len, fun j s e => by
  rcases getElem?_set_cases e with ⟨_, e2, _⟩ | ⟨hj, e2⟩
  · cases e2
  · exact p.sl j s e2⟩
theorem Stp.blank {i : Nat} (s : Stp own ρ H own' ρ' H') (hf : ∀ d, ρ[i]? ≠ some (some (.lk d)) ∧ ρ[i]? ≠ some (some (.io d))) : Stp own ρ H own' (ρ'.set i none) H' where
  keep := s.keep
  dom := s.dom
  nw := s.nw
  fz := fun b ⟨j, x, e1, e2, e3⟩ => by
    rcases getElem?_set_cases e2 with ⟨_, e4, _⟩ | ⟨_, e4⟩
    · cases e4
    · exact s.fz b ⟨j, x, e1, e4, e3⟩
  lk := fun j d e => by
    have hj : i ≠ j := fun q => (hf d).1 (q ▸ e)
    obtain ⟨q1, q2⟩ := s.lk j d e
    exact ⟨by rw [List.getElem?_set_ne hj]; exact q1, q2⟩
  io := fun j d e => by
    have hj : i ≠ j := fun q => (hf d).2 (q ▸ e)
    obtain ⟨⟨d', q1⟩, q2⟩ := s.io j d e
    exact ⟨⟨d', by rw [List.getElem?_set_ne hj]; exact q1⟩, q2⟩
  ln := by rw [List.length_set]; exact s.ln
theorem clr_some {i : Nat} (h : clr i ρ = some ρ') : ρ' = ρ.set i none ∧ (∀ d, ρ[i]? ≠ some (some (.lk d)) ∧ ρ[i]? ≠ some (some (.io d))) ∧ i < ρ.length := by
  unfold clr at h
  split at h
  · rename_i s e
    split at h
    · rename_i hf
      cases h
      refine ⟨rfl, fun d => ⟨fun q => ?_, fun q => ?_⟩, (List.getElem?_eq_some_iff.mp e).1⟩
      · rw [e] at q; cases q; cases hf
      · rw [e] at q; cases q; cases hf
    · cases h
  · cases h
theorem names_own {T : Str} (hg : Gl X T) (gC : X.mg T = some (.ref (He.ga X.K T))) (hT : T ≠ "ValueError") (hd : (T == ("__debug__" : Str)) = false := by decide) : Names X T (clsV X.K T) := ⟨hg, hd, .inl (by unfold clsV; rw [if_neg hT]; exact gC)⟩
variable {body suite : List Stmt} {b₀ : Stmt} {fb : EvS} {fs : Str → EvS} {tbl : Str → Str → Option Bool} {T n : Str} {i : Nat}
theorem s_tryAs {np pos' : Pos} (xf : XF X.K tbl) (hs : X.stack = X.env :: X.outer) (hf : X.env.frame = some X.env.locals) (hN : X.N.Nodup) (hi : X.N[i]? = some n) (hln : X.env.kindOf n = some .local) (hc : Names X T (clsV X.K T)) (tk : Takes X W)
    (hb : ∀ (W : WX) (pn : List (Addr × Obj)) (xe : Value → Shared → Prop), Takes (X.tr pn xe) W → PassesOwn (model X.prog X.w) X.A X.env xe → PSs (X.tr pn xe) body (SemS X.K W fb))
    (hsu : ∀ (a : Addr) (oe : Obj) (c : Str) (pn : List (Addr × Obj)), Zc (.ref (He.ga X.K c)) none oe → (∃ vs, oe.data = .fields vs) → tbl c T = some true → PSs (X.suite a ((a, oe) :: pn)) (b₀ :: suite) (wS (At i a) (SemS X.K WF (fs c)))) :
    PS X (.Try body [.ExceptHandler (some (.Name T np)) (some n) (b₀ :: suite) pos'] [] [] pos) (SemS X.K W (evTryAs tbl T i fb fs)) := by
  refine PS.imp (ps_try_as (tb := fun W => SemS X.K W fb) (ts := fun a cls d D σ H => ∃ c, cls = .ref (He.ga X.K c) ∧ d = none ∧ tbl c T = some true ∧ wS (At i a) (SemS X.K WF (fs c)) D σ H) hs hf hN hi hln hc tk hb (fun a oe cls d pn hz hfl => ?_)) fun D σ H ⟨al, own, ρ, p, h⟩ => ?_
  · refine ⟨fun pins s σ H D I ⟨c, e1, e2, e3, h⟩ => ?_⟩
    subst e1 e2
    exact (hsu a oe c pn hz hfl e3).run pins s σ H D I h
  · refine ⟨al, own, ρ, p, ?_⟩
    simp only [evTryAs] at h
    cases e : fb ρ with
    | next ρ' => simp only [e] at h; exact h
    | ret r ρ' => simp only [e] at h; exact h
    | brk ρ' => simp only [e] at h; exact h
    | cont ρ' => simp only [e] at h; exact h
    | stuck => simp only [e] at h; exact h
    | exc c ρ' =>
      simp only [e] at h
      intro σ' H' own' p' s'
      cases et : tbl c T with
      | none => simp only [et] at h; exact h.elim
      | some b =>
        refine ⟨b, xf.exm c T b et, fun hb a ha => ?_, fun hb => ?_⟩
        · subst hb
          simp only [et] at h
          cases ec : clr i ρ' with
          | none => simp only [ec] at h; exact h.elim
          | some ρ2 =>
            simp only [ec] at h
            obtain ⟨rfl, hfr, hlt⟩ := clr_some ec
            have hfr0 : ∀ d, ρ[i]? ≠ some (some (.lk d)) ∧ ρ[i]? ≠ some (some (.io d)) := fun d => ⟨fun q => (hfr d).1 (s'.lk i d q).1, fun q => by
              obtain ⟨⟨d', q1⟩, _⟩ := s'.io i d q
              exact (hfr d').2 q1⟩
            refine ⟨c, rfl, rfl, et, ?_, al, own', ρ'.set i none, p'.blank i _, ?_⟩
            · exact List.getElem?_set_self (by rw [← p'.len]; exact hlt)
            have none_i : ∀ d, (ρ'.set i none)[i]? ≠ some (some (.lk d)) ∧ (ρ'.set i none)[i]? ≠ some (some (.io d)) := fun d => by
              rw [List.getElem?_set_self hlt]
              exact ⟨fun z => (nomatch z), fun z => (nomatch z)⟩
            have st : Stp own ρ H own' (ρ'.set i none) H' := s'.blank hfr0
            cases ef : fs c (ρ'.set i none) with
            | exc _ _ => simp only [ef] at h; exact h.elim
            | stuck => simp only [ef, OutS.on] at h; exact h
            | next ρ3 => simp only [ef, OutS.on] at h; exact fun σ2 H2 own2 p2 s2 => h _ H2 own2 (p2.blank i none) (st.trans (s2.blank none_i))
            | brk ρ3 => simp only [ef, OutS.on] at h; exact fun σ2 H2 own2 p2 s2 => h _ H2 own2 (p2.blank i none) (st.trans (s2.blank none_i))
            | cont ρ3 => simp only [ef, OutS.on] at h; exact fun σ2 H2 own2 p2 s2 => h _ H2 own2 (p2.blank i none) (st.trans (s2.blank none_i))
            | ret r ρ3 =>
              simp only [ef, OutS.on] at h
              cases r with
              | sh d => exact fun v σ2 H2 own2 as p2 s2 => h v _ H2 own2 as (p2.blank i none) (st.trans (s2.blank none_i))
              | ow d => exact fun v σ2 H2 own2 a p2 s2 o ha hf hw => h v _ H2 own2 a (p2.blank i none) (st.trans (s2.blank none_i)) o ha hf (st.src hw)
        · subst hb
          simp only [et] at h
          exact h σ' H' own' p' s'
theorem s_try {np pos' : Pos} (xf : XF X.K tbl) (hs : X.stack = X.env :: X.outer) (hf : X.env.frame = some X.env.locals) (hc : Names X T (clsV X.K T)) (tk : Takes X W)
    (hb : ∀ (W : WX) (pn : List (Addr × Obj)) (xe : Value → Shared → Prop), Takes (X.tr pn xe) W → PassesOwn (model X.prog X.w) X.A X.env xe → PSs (X.tr pn xe) body (SemS X.K W fb))
    (hsu : ∀ (a : Addr) (oe : Obj) (c : Str) (pn : List (Addr × Obj)), Zc (.ref (He.ga X.K c)) none oe → (∃ vs, oe.data = .fields vs) → tbl c T = some true → PSs (X.suite a ((a, oe) :: pn)) (b₀ :: suite) (SemS X.K WF (fs c))) :
    PS X (.Try body [.ExceptHandler (some (.Name T np)) none (b₀ :: suite) pos'] [] [] pos) (SemS X.K W (evTry tbl T fb fs)) := by
  refine PS.imp (ps_try_only (tb := fun W => SemS X.K W fb) (ts := fun a cls d D σ H => ∃ c, cls = .ref (He.ga X.K c) ∧ d = none ∧ tbl c T = some true ∧ SemS X.K WF (fs c) D σ H) hs hf hc tk hb (fun a oe cls d pn hz hfl => ?_)) fun D σ H ⟨al, own, ρ, p, h⟩ => ?_
  · refine ⟨fun pins s σ H D I ⟨c, e1, e2, e3, h⟩ => ?_⟩
    subst e1 e2
    exact (hsu a oe c pn hz hfl e3).run pins s σ H D I h
  · refine ⟨al, own, ρ, p, ?_⟩
    simp only [evTry] at h
    cases e : fb ρ with
    | next ρ' => simp only [e] at h; exact h
    | ret r ρ' => simp only [e] at h; exact h
    | brk ρ' => simp only [e] at h; exact h
    | cont ρ' => simp only [e] at h; exact h
    | stuck => simp only [e] at h; exact h
    | exc c ρ' =>
      simp only [e] at h
      intro σ' H' own' p' s'
      cases et : tbl c T with
      | none => simp only [et] at h; exact h.elim
      | some b =>
        refine ⟨b, xf.exm c T b et, fun hb a ha => ?_, fun hb => ?_⟩
        · subst hb
          simp only [et] at h
          refine ⟨c, rfl, rfl, et, al, own', ρ', p', ?_⟩
          cases ef : fs c ρ' with
          | exc _ _ => simp only [ef] at h; exact h.elim
          | stuck => simp only [ef] at h; exact h
          | next ρ3 => simp only [ef] at h; exact OkS.after (o := .next ρ3) s' h
          | brk ρ3 => simp only [ef] at h; exact OkS.after (o := .brk ρ3) s' h
          | cont ρ3 => simp only [ef] at h; exact OkS.after (o := .cont ρ3) s' h
          | ret r ρ3 => simp only [ef] at h; exact OkS.after (o := .ret r ρ3) s' h
        · subst hb
          simp only [et] at h
          exact h σ' H' own' p' s'
/-! within a suite: isinstance(error, T), and what is built of it -/
def evIsE (tbl : Str → Str → Option Bool) (c T : Str) : Ev := fun ρ => match tbl c T with
  | some b => .ok (.sh (.bool b)) ρ
  | none => .stuck
theorem pe_isE {a : Addr} {oe : Obj} {pn : List (Addr × Obj)} {c : Str} {p1 p2 : Pos} (xf : XF X.K tbl) (hz : Zc (.ref (He.ga X.K c)) none oe) (hf : ∃ vs, oe.data = .fields vs) (hx : PE (X.suite a ((a, oe) :: pn)) (.Name x p1) (tVar i)) (hg : Gl X "isinstance") (hm : X.mg "isinstance" = none) (hc : Names X T (clsV X.K T)) :
    PE (X.suite a ((a, oe) :: pn)) (.Call (.Name "isinstance" p) [.Name x p1, .Name T p2] [] pos) (wE (At i a) (SemE X.K WF (evIsE tbl c T))) := by
  cases et : tbl c T with
  | none => exact ⟨fun pins s σ H Q I ⟨_, al, own, ρ, _, h⟩ => by simp only [evIsE, et] at h⟩
  | some b =>
    have hT : ∃ tv, (∀ u, RelV tv u → u = clsV X.K T) ∧ PE (X.suite a ((a, oe) :: pn)) (.Name T p2) (tC tv) := by
      obtain ⟨hg2, hd2, hm2 | ⟨hm2, hv, hn⟩⟩ := hc
      · by_cases hT : T = "ValueError"
        · refine ⟨.ty "ValueError", fun u r => ?_, ?_⟩
          · unfold clsV; rw [if_pos hT]; exact r
          · refine pe_glob (X := X.suite a ((a, oe) :: pn)) hg2 hm2 ?_ hd2
            unfold clsV; rw [if_pos hT]; rfl
        · refine ⟨.ref (He.ga X.K T), fun u r => ?_, ?_⟩
          · unfold clsV; rw [if_neg hT]; exact r
          · refine pe_glob (X := X.suite a ((a, oe) :: pn)) hg2 hm2 ?_ hd2
            unfold clsV; rw [if_neg hT]; rfl
      · by_cases hT : T = "ValueError"
        · refine ⟨.ty "ValueError", fun u r => ?_, ?_⟩
          · unfold clsV; rw [if_pos hT]; exact r
          · refine pe_bltn (X := X.suite a ((a, oe) :: pn)) hg2 hm2 hv ?_ hn hd2
            unfold clsV; rw [if_pos hT]; rfl
        · refine ⟨.ref (He.ga X.K T), fun u r => ?_, ?_⟩
          · unfold clsV; rw [if_neg hT]; exact r
          · refine pe_bltn (X := X.suite a ((a, oe) :: pn)) hg2 hm2 hv ?_ hn hd2
            unfold clsV; rw [if_neg hT]; rfl
    obtain ⟨tv, r1, hP⟩ := hT
    refine PE.imp (pe_callB (X := X.suite a ((a, oe) :: pn)) (call_isE (xf.cls c T b et) hz hf) hg hm boot_isinstance (pa_cons hx (pa_cons hP pa_nil))) fun σ H Q ⟨ha, al, own, ρ, p, h⟩ => ?_
    simp only [evIsE, et] at h
    exact ⟨_, ha, tv, clsV X.K T, b, rfl, r1, xf.kit c T b et, h _ H own [] p .refl (.bl b) (fun _ z => nomatch z)⟩
end
end
end Ev
set_option Elab.async false
set_option linter.all false
set_option autoImplicit false
set_option maxRecDepth 100000
/-! Ev15: a, b = x, y; name += e; what suites are built of; dict of pairs. -/
namespace Ev
open PySem PySem.Spec L2
open PyProof.Rows hiding St
noncomputable section
def evRs : List Ev → Env → Out (List Res)
  | [], ρ => .ok [] ρ
  | f :: fs, ρ => match f ρ with
    | .ok r ρ1 => (match evRs fs ρ1 with
      | .ok rs ρ2 => .ok (r :: rs) ρ2
      | .exc c ρ2 => .exc c ρ2
      | .stuck => .stuck)
    | .exc c ρ1 => .exc c ρ1
    | .stuck => .stuck
/-- results not yet stored: each list of its own stands apart from all else -/
def RsOk (K : PySem.W.Frag) (H : Hp) (al0 : Addr → Prop) (src : Addr → Prop) (al : Addr → Prop) (own : Own) : (Addr → Prop) → List Res → List V → Prop
  | _, [], [] => True
  | S, .sh d :: rs, v :: vs => (∃ as, Rp K H v d as ∧ ∀ b ∈ as, Zf al own b) ∧ RsOk K H al0 src al own S rs vs
  | S, .ow d :: rs, v :: vs => ∃ a, OwV K H (Zf al own) v d a ∧ ¬ al a ∧ ¬ S a ∧ al0 a ∧ Free own a ∧ src a ∧ RsOk K H al0 src al own (fun b => S b ∨ b = a) rs vs
  | _, _, _ => False
def SemRs (K : PySem.W.Frag) (W : WX) (fs : List Ev) : TA := fun σ H Q => ∃ al own ρ, Pre K al own ρ σ H ∧ match evRs fs ρ with
  | .ok rs ρ1 => ∀ vs H' own' al', Pre K al' own' ρ1 σ H' → Stp own ρ H own' ρ1 H' → (∀ b, al' b → al b) → (∀ b, Zf al own b → H b ≠ none → al' b) → (∀ S : Addr → Prop, (∀ b, S b → ¬ al b) → RsOk K H' al (fun a => H a = none ∨ Wr own ρ a) al' own' S rs vs) → Q vs H'
  | .exc c ρ1 => ExE K W al own ρ σ H c ρ1
  | .stuck => False
section
variable {K : PySem.W.Frag} {W : WX} {al al' al0 : Addr → Prop} {own own' own1 own0 : Own} {ρ ρ' ρ1 ρ2 ρ0 : Env} {σ σ1 σ' : St} {H H' H1 H0 : Hp} {X : Cx} {pos p : Pos} {D : Ends} {e : Expr} {es : List Expr} {f : Ev} {fs : List Ev} {src : Addr → Prop}
theorem RsOk.imp {al1 src1 : Addr → Prop} (h1 : ∀ b, al0 b → al1 b) (h2 : ∀ a, src a → src1 a) : ∀ {rs : List Res} {vs : List V} {S : Addr → Prop}, RsOk K H al0 src al own S rs vs → RsOk K H al1 src1 al own S rs vs
  | [], [], S, _ => trivial
  | [], _ :: _, S, h => h.elim
  | .sh _ :: _, [], S, h => h.elim
  | .ow _ :: _, [], S, h => h.elim
  | .sh d :: rs, v :: vs, S, ⟨a, b⟩ => ⟨a, RsOk.imp h1 h2 b⟩
  | .ow d :: rs, v :: vs, S, ⟨a, q1, q2, q3, q4, q5, q6, q7⟩ => ⟨a, q1, q2, q3, h1 a q4, q5, h2 a q6, RsOk.imp h1 h2 q7⟩
theorem RsOk.grow (g : Grow H H') : ∀ {rs : List Res} {vs : List V} {S : Addr → Prop}, RsOk K H al0 src al own S rs vs → RsOk K H' al0 src al own S rs vs
  | [], [], S, _ => trivial
  | [], _ :: _, S, h => h.elim
  | .sh _ :: _, [], S, h => h.elim
  | .ow _ :: _, [], S, h => h.elim
  | .sh d :: rs, v :: vs, S, ⟨⟨as, r, z⟩, b⟩ => ⟨⟨as, g.rp r, z⟩, RsOk.grow g b⟩
  | .ow d :: rs, v :: vs, S, ⟨a, q1, q2, q3, q4, q5, q6, q7⟩ => ⟨a, g.owV q1, q2, q3, q4, q5, q6, RsOk.grow g q7⟩
theorem OwV.keep {Z Z' : Addr → Prop} {Wd : Addr → Prop} {v : V} {d : PyData} {a : Addr} (hk : ∀ b o, H b = some o → ¬ Wd b → H' b = some o) (hm : ∀ b, Wd b → ∃ o, H b = some o ∧ Mut (some o)) (h : OwV K H Z v d a) (ha : ¬ Wd a) (hz : ∀ b, Z b → ¬ Wd b) (hz' : ∀ b, Z b → H b ≠ none → Z' b) : OwV K H' Z' v d a := by
  obtain ⟨e, ⟨xs, ds, as, h1, h2, h3, h4⟩ | ⟨xs, ds, as, h1, h2, h3, h4⟩⟩ := h
  · exact ⟨e, .inl ⟨xs, ds, as, h1, hk a _ h2 ha, RpA.keep hk hm _ _ _ h3 fun b hb => hz b (h4 b hb), fun b hb => hz' b (h4 b hb) (RpA.there _ _ _ h3 b hb)⟩⟩
  · exact ⟨e, .inr ⟨xs, ds, as, h1, hk a _ h2 ha, RpK.keep hk hm _ _ _ h3 fun b hb => hz b (h4 b hb), fun b hb => hz' b (h4 b hb) (RpK.there _ _ _ h3 b hb)⟩⟩
theorem semRs_nil {Q : List V → Hp → Prop} (h : SemRs K W [] σ H Q) : tNil σ H Q := by
  obtain ⟨al, own, ρ, p, h⟩ := h
  exact h [] H own al p .refl (fun _ h => h) (fun _ h _ => h.1) fun _ _ => trivial
theorem Stp.zf (s : Stp own ρ H own' ρ' H') {b : Addr} (z : Free own b) (t : H b ≠ none) : Free own' b := fun i e => (s.nw i b e).elim (fun ⟨j, q⟩ => z j q) t
theorem semRs_cons {Q : List V → Hp → Prop} (h : SemRs K W (f :: fs) σ H Q) : tCons (SemE K W f) (SemRs K W fs) σ H Q := by
  obtain ⟨al, own, ρ, p, h⟩ := h
  refine ⟨al, own, ρ, p, ?_⟩
  simp only [evRs] at h
  cases e : f ρ with
  | stuck => simp only [e] at h
  | exc c ρ1 => simp only [e] at h ⊢; exact h
  | ok r ρ1 =>
    simp only [e] at h ⊢
    cases r with
    | sh d =>
      intro v H1 own1 bs p1 s1 r1 z1
      refine ⟨al, own1, ρ1, p1, ?_⟩
      cases q : evRs fs ρ1 with
      | stuck => simp only [q] at h
      | exc c ρ2 => simp only [q] at h ⊢; exact h.after s1
      | ok rs ρ2 =>
        simp only [q] at h ⊢
        intro vs H2 own2 al2 p2 s2 m1 m2 m3
        obtain ⟨r2, z2⟩ := s2.rp p1 r1 z1
        refine h (v :: vs) H2 own2 al2 p2 (s1.trans s2) m1 (fun b zb tb => m2 b ⟨zb.1, s1.zf zb.2 tb⟩ (fun e => tb (s1.dom b e))) fun S hS => ⟨⟨bs, r2, fun b hb => ⟨m2 b (z1 b hb) (Rp.there _ _ _ r1 b hb), (z2 b hb).2⟩⟩, ?_⟩
        exact RsOk.imp (fun _ h => h) (fun a ha => s1.src ha) (m3 S hS)
    | ow d =>
      intro v H1 own1 a p1 s1 o ha hf hw
      refine ⟨_, own1, ρ1, p1, ?_⟩
      cases q : evRs fs ρ1 with
      | stuck => simp only [q] at h
      | exc c ρ2 => simp only [q] at h ⊢; exact fun H2 own2 p2 s2 => h H2 own2 (p2.mono al_but) (s1.trans s2)
      | ok rs ρ2 =>
        simp only [q] at h ⊢
        intro vs H2 own2 al2 p2 s2 m1 m2 m3
        have ht : H1 a ≠ none := by
          obtain ⟨_, ⟨_, _, _, _, h2, _⟩ | ⟨_, _, _, _, h2, _⟩⟩ := o <;> (rw [h2]; exact fun z => nomatch z)
        refine h (v :: vs) H2 own2 al2 p2 (s1.trans s2) (fun b hb => (m1 b hb).1) (fun b zb tb => m2 b ⟨⟨zb.1, fun e => ?_⟩, s1.zf zb.2 tb⟩ (fun e => tb (s1.dom b e))) fun S hS => ⟨a, ?_, fun z => (m1 a z).2 rfl, fun z => hS a z ha, ha, s2.zf hf ht, hw, ?_⟩
        · rcases hw with hw | ⟨i, _, hw, _⟩
          · exact tb (e ▸ hw)
          · exact zb.2 i (e ▸ hw)
        · exact OwV.keep (Wd := Wr own1 ρ1) s2.keep p1.wrM o hf.wr (fun b zb => zb.2.wr) fun b zb tb => ⟨m2 b zb tb, s2.zf zb.2 tb⟩
        · exact RsOk.imp (fun b h => h.1) (fun a ha => s1.src ha) (m3 _ fun b hb => hb.elim (fun hb hal => hS b hb hal.1) fun e hal => hal.2 e)
theorem pa_r0 : PA X [] (SemRs X.K W []) := PA.imp pa_nil fun _ _ _ h => semRs_nil h
theorem pa_r (ha : PE X e (SemE X.K W f)) (hr : PA X es (SemRs X.K W fs)) (hs : starEach (e :: es) X.env = (false, eval e X.env) :: starEach es X.env := by rfl) : PA X (e :: es) (SemRs X.K W (f :: fs)) := PA.imp (pa_cons ha hr hs) fun _ _ _ h => semRs_cons h
/-! ### stored one by one -/
def bindR : Tg → Res → Env → Option Env
  | .nm i, r, ρ => putR i r ρ
  | .tup ts, .sh (.tuple ds), ρ => bindTs ts ds ρ
  | _, _, _ => none
def bindRs : List Tg → List Res → Env → Option Env
  | [], [], ρ => some ρ
  | t :: ts, r :: rs, ρ => match bindR t r ρ with
    | some ρ' => bindRs ts rs ρ'
    | none => none
  | _, _, _ => none
/-- some results are stored: S of the apart ones are now owned -/
structure Mid (K : PySem.W.Frag) (al0 : Addr → Prop) (own0 : Own) (ρ0 : Env) (H0 : Hp) (al : Addr → Prop) (own : Own) (S : Addr → Prop) (own1 : Own) (ρ1 : Env) (σ1 : St) (H : Hp) : Prop where
  pre : Pre K (fun b => al b ∨ S b) own1 ρ1 σ1 H
  stp : Stp own0 ρ0 H0 own1 ρ1 H
  sub : ∀ b, al b ∨ S b → al0 b
  off : ∀ b, S b → ¬ al b
  ow : ∀ i b, own1 i = some b → (∃ j, own j = some b) ∨ S b
theorem Mid.zf {S : Addr → Prop} (m : Mid K al0 own0 ρ0 H0 al own S own1 ρ1 σ1 H) {b : Addr} (z : Zf al own b) : Zf (fun b => al b ∨ S b) own1 b := ⟨.inl z.1, fun i e => (m.ow i b e).elim (fun ⟨j, q⟩ => z.2 j q) fun s => m.off b s z.1⟩
theorem Mid.ash {S : Addr → Prop} (m : Mid K al0 own0 ρ0 H0 al own S own1 ρ1 σ1 H) {i : Nat} {v : V} {d : PyData} {as : List Addr} (r : Rp K H v d as) (z : ∀ b ∈ as, Zf al own b) (e : putR i (.sh d) ρ1 = some ρ2) : Mid K al0 own0 ρ0 H0 al own S (own1.drop i) ρ2 (σ1.set i (some v)) H := by
  obtain ⟨p2, s2⟩ := put_sh m.pre e r fun b hb => m.zf (z b hb)
  exact ⟨p2, m.stp.trans s2, m.sub, m.off, fun j b e => m.ow j b (Own.drop_some e).1⟩
theorem Mid.aow {S : Addr → Prop} (m : Mid K al0 own0 ρ0 H0 al own S own1 ρ1 σ1 H) {i : Nat} {v : V} {d : PyData} {a : Addr} (o : OwV K H (Zf al own) v d a) (h1 : ¬ al a) (h2 : ¬ S a) (h3 : al0 a) (h4 : Free own a) (h5 : H0 a = none ∨ Wr own0 ρ0 a) (e : putR i (.ow d) ρ1 = some ρ2) :
    Mid K al0 own0 ρ0 H0 al own (fun b => S b ∨ b = a) (own1.put i a) ρ2 (σ1.set i (some v)) H := by
  have f1 : Free own1 a := fun j e => (m.ow j a e).elim (fun ⟨k, q⟩ => h4 k q) h2
  have p1 : Pre K (fun b => (al b ∨ S b ∨ b = a) ∧ b ≠ a) own1 ρ1 σ1 H := m.pre.mono fun b hb => ⟨hb.elim .inl fun h => .inr (.inl h), fun e => hb.elim (fun h => h1 (e ▸ h)) fun h => h2 (e ▸ h)⟩
  have o1 : OwV K H (Zf (fun b => (al b ∨ S b ∨ b = a) ∧ b ≠ a) own1) v d a := o.mono fun b hb => (m.zf hb).mono fun b hb => ⟨hb.elim .inl fun h => .inr (.inl h), fun e => hb.elim (fun h => h1 (e ▸ h)) fun h => h2 (e ▸ h)⟩
  have p2 := put_ow (al := fun b => al b ∨ S b ∨ b = a) p1 e o1 (.inr (.inr rfl)) f1
  refine ⟨p2, put_ow_stp m.stp e h5, fun b hb => hb.elim (fun h => m.sub b (.inl h)) fun h => h.elim (fun h => m.sub b (.inr h)) fun e => e ▸ h3, fun b hb => hb.elim (m.off b) fun e h => h1 (e ▸ h), fun j b e => ?_⟩
  by_cases hj : j = i
  · subst hj
    rw [Own.put_same] at e
    cases e
    exact .inr (.inr rfl)
  · rw [Own.put_ne hj] at e
    exact (m.ow j b e).imp id .inl
/-- a target of a result -/
def SemGR (K : PySem.W.Frag) (t : Tg) (Q' : (Addr → Prop) → Prop) : TG := fun v σ H Q => ∃ al0 own0 ρ0 H0 al own S own1 ρ1 r ρ2, Mid K al0 own0 ρ0 H0 al own S own1 ρ1 σ H ∧ RsOk K H al0 (fun a => H0 a = none ∨ Wr own0 ρ0 a) al own S [r] [v] ∧ bindR t r ρ1 = some ρ2 ∧
  ∀ S2 own2 σ2, Mid K al0 own0 ρ0 H0 al own S2 own2 ρ2 σ2 H → (match r with
    | .sh _ => S2 = S
    | .ow _ => ∃ a, S2 = fun b => S b ∨ b = a) → Q σ2 H
def SemGRs (K : PySem.W.Frag) (ts : List Tg) : TGs := fun vs σ H Q => ∃ al0 own0 ρ0 H0 al own S own1 ρ1 rs ρ2, Mid K al0 own0 ρ0 H0 al own S own1 ρ1 σ H ∧ RsOk K H al0 (fun a => H0 a = none ∨ Wr own0 ρ0 a) al own S rs vs ∧ bindRs ts rs ρ1 = some ρ2 ∧
  ∀ S2 own2 σ2, Mid K al0 own0 ρ0 H0 al own S2 own2 ρ2 σ2 H → Q σ2 H
/-- a target stores as told, whatever stands -/
def GR (X : Cx) (e : Expr) (t : Tg) : Prop := (∃ i x, t = .nm i ∧ (∃ p, e = .Name x p) ∧ PG X e (gName i)) ∨ (∃ ts, t = .tup ts ∧ PG X e (SemG X.K (.tup ts)))
theorem gr_nm {i : Nat} {x : Str} (hN : X.N.Nodup) (hi : X.N[i]? = some x) (hx : Loc X.env.scope x) (hf : X.fn x = true ∨ X.env.scope.names.lookup x = some .local := by first | exact .inl rfl | exact .inr rfl | assumption) : GR X (.Name x pos) (.nm i) := .inl ⟨i, x, rfl, ⟨_, rfl⟩, pg_name hN hi hx hf⟩
theorem gr_tup {ts : List Tg} (h : PG X e (SemG X.K (.tup ts))) : GR X e (.tup ts) := .inr ⟨ts, rfl, h⟩
theorem r_nil : PGs X [] (SemGRs X.K []) := PGs.imp pgs_nil fun vs σ H Q ⟨al0, own0, ρ0, H0, al, own, S, own1, ρ1, rs, ρ2, m, r, b, k⟩ => by
  cases rs with
  | cons _ _ => simp [bindRs] at b
  | nil =>
    cases vs with
    | cons _ _ => exact r.elim
    | nil =>
      simp only [bindRs, Option.some.injEq] at b
      subst b
      exact ⟨rfl, k S own1 σ m⟩
theorem r_cons {t : Tg} {ts : List Tg} (h1 : GR X e t) (h2 : PGs X es (SemGRs X.K ts)) (hs : (assignEach (e :: es) X.env).map (·.2) = assign e X.env :: (assignEach es X.env).map (·.2) := by rfl) : PGs X (e :: es) (SemGRs X.K (t :: ts)) := by
  rcases h1 with ⟨i, x, rfl, _, hg⟩ | ⟨tt, rfl, hg⟩
  · refine PGs.imp (pgs_cons hg h2 hs) fun vs σ H Q ⟨al0, own0, ρ0, H0, al, own, S, own1, ρ1, rs, ρ2, m, r, b, k⟩ => ?_
    cases rs with
    | nil => simp [bindRs] at b
    | cons r0 rs =>
      cases vs with
      | nil => cases r0 <;> exact r.elim
      | cons v vs =>
        simp only [bindRs] at b
        cases q : bindR (.nm i) r0 ρ1 with
        | none => simp [q] at b
        | some ρ3 =>
          simp only [q] at b
          refine ⟨v, vs, rfl, ?_⟩
          cases r0 with
          | sh d =>
            obtain ⟨⟨as, rr, z⟩, r2⟩ := r
            exact ⟨al0, own0, ρ0, H0, al, own, S, _, ρ3, rs, ρ2, m.ash rr z q, r2, b, k⟩
          | ow d =>
            obtain ⟨a, q1, q2, q3, q4, q5, q6, q7⟩ := r
            exact ⟨al0, own0, ρ0, H0, al, own, _, _, ρ3, rs, ρ2, m.aow q1 q2 q3 q4 q5 q6 q, q7, b, k⟩
  · refine PGs.imp (pgs_cons hg h2 hs) fun vs σ H Q ⟨al0, own0, ρ0, H0, al, own, S, own1, ρ1, rs, ρ2, m, r, b, k⟩ => ?_
    cases rs with
    | nil => simp [bindRs] at b
    | cons r0 rs =>
      cases vs with
      | nil => cases r0 <;> exact r.elim
      | cons v vs =>
        simp only [bindRs] at b
        cases q : bindR (.tup tt) r0 ρ1 with
        | none => simp [q] at b
        | some ρ3 =>
          simp only [q] at b
          refine ⟨v, vs, rfl, ?_⟩
          cases r0 with
          | ow d => simp [bindR] at q
          | sh d =>
            cases d with
            | tuple ds =>
              obtain ⟨⟨as, rr, z⟩, r2⟩ := r
              refine ⟨_, own1, ρ1, _, as, ρ3, m.pre, rr, fun b hb => m.zf (z b hb), q, fun σ2 own2 p2 s2 a2 => ?_⟩
              refine ⟨al0, own0, ρ0, H0, al, own, S, own2, ρ3, rs, ρ2, ⟨p2, m.stp.trans s2, m.sub, m.off, fun j b e => ?_⟩, r2, b, k⟩
              rcases s2.nw j b e with ⟨j', q'⟩ | q'
              · exact m.ow j' b q'
              · obtain ⟨o, q2, _⟩ := p2.mu j b e
                rw [q'] at q2
                cases q2
            | none => simp [bindR] at q
            | bool _ => simp [bindR] at q
            | int _ => simp [bindR] at q
            | str _ => simp [bindR] at q
            | list _ => simp [bindR] at q
            | dict _ => simp [bindR] at q
/-! the statements -/
def sPar (ts : List Tg) (fs : List Ev) : EvS := fun ρ => match evRs fs ρ with
  | .ok rs ρ1 => (match bindRs ts rs ρ1 with
    | some ρ2 => .next ρ2
    | none => .stuck)
  | .exc c ρ1 => .exc c ρ1
  | .stuck => .stuck
theorem RsOk.length : ∀ {rs : List Res} {vs : List V} {S : Addr → Prop}, RsOk K H al0 src al own S rs vs → vs.length = rs.length
  | [], [], S, _ => rfl
  | [], _ :: _, S, h => h.elim
  | .sh _ :: _, [], S, h => h.elim
  | .ow _ :: _, [], S, h => h.elim
  | .sh d :: rs, v :: vs, S, ⟨a, b⟩ => by simp [RsOk.length b]
  | .ow d :: rs, v :: vs, S, ⟨a, q1, q2, q3, q4, q5, q6, q7⟩ => by simp [RsOk.length q7]
theorem bindRs_length : ∀ {ts : List Tg} {rs : List Res} {ρ ρ' : Env}, bindRs ts rs ρ = some ρ' → rs.length = ts.length
  | [], [], _, _, _ => rfl
  | [], _ :: _, _, _, h => by simp [bindRs] at h
  | _ :: _, [], _, _, h => by simp [bindRs] at h
  | t :: ts, r :: rs, ρ, ρ', h => by
    simp only [bindRs] at h
    split at h
    · simp [bindRs_length h]
    · cases h
theorem evRs_length : ∀ {fs : List Ev} {ρ ρ1 : Env} {rs : List Res}, evRs fs ρ = .ok rs ρ1 → rs.length = fs.length
  | [], ρ, ρ1, rs, h => by simp only [evRs, Out.ok.injEq] at h; rw [← h.1]; rfl
  | o :: os, ρ, ρ1, rs, h => by
    simp only [evRs] at h
    split at h
    · split at h
      · rename_i h2
        simp only [Out.ok.injEq] at h
        rw [← h.1]
        simp [evRs_length h2]
      · cases h
      · cases h
    · cases h
    · cases h
theorem semPar {ts : List Tg} {R : List V → Hp → Prop} (h : SemS K W (sPar ts fs) D σ H) (k : ∀ vs H1, SemGRs K ts vs σ H1 D.nx → vs.length = ts.length → (∀ p, H1 p = none → SemGRs K ts vs σ (upd H1 p (.tup vs)) D.nx) → R vs H1) : SemRs K W fs σ H R := by
  obtain ⟨al, own, ρ, p, h⟩ := h
  refine ⟨al, own, ρ, p, ?_⟩
  simp only [sPar] at h
  cases e : evRs fs ρ with
  | stuck => simp only [e] at h; exact h
  | exc c ρ' => simp only [e] at h ⊢; exact ExS.toE h
  | ok rs ρ1 =>
    simp only [e] at h ⊢
    cases q : bindRs ts rs ρ1 with
    | none => simp only [q] at h; exact h.elim
    | some ρ2 =>
      simp only [q] at h
      intro vs H' own' al' p' s' m1 m2 m3
      have r := m3 (fun _ => False) (fun _ z => z.elim)
      have md : ∀ H2, Grow H' H2 → Mid K al own ρ H al' own' (fun _ => False) own' ρ1 σ H2 := fun H2 g => ⟨(p'.grow g).mono fun b h => .inl h, s'.trans g.stp, fun b hb => hb.elim (m1 b) fun z => z.elim, fun _ z => z.elim, fun i b e => .inl ⟨i, e⟩⟩
      have fin : ∀ H2, Grow H' H2 → SemGRs K ts vs σ H2 D.nx := fun H2 g => ⟨al, own, ρ, H, al', own', _, own', ρ1, rs, ρ2, md H2 g, r.grow g, q, fun S2 own2 σ2 m => h σ2 H2 own2 (m.pre.mono fun b hb => m.sub b hb) m.stp⟩
      exact k vs H' (fin H' .refl) (by rw [r.length, bindRs_length q]) fun p hp => fin _ (Grow.upd hp)
/-- targets that aren't all plain locals -/
theorem s_parG {ts : List Tg} {ts' : List Expr} {kt k2 : _} {pt pt2 : Pos} (hc : X.calm = true) (hes : PA X es (SemRs X.K W fs)) (hg : PGs X ts' (SemGRs X.K ts)) (hl : ts'.length = ts.length := by rfl) (hb : ts.length ≤ 1000 := by decide)
    (hw : swappedStores [.Tuple ts' kt pt] (.Tuple es k2 pt2) X.env = pure none := by rfl) (hs : swapsWithSole [.Tuple ts' kt pt] (.Tuple es k2 pt2) pos.line X.env = pure false := by rfl) (hn : (assignEach ts' X.env).length = ts'.length := by rfl) (hst : (assignEach ts' X.env).findIdx? (·.1) = none := by rfl) (h1 : (assignEach [.Tuple ts' kt pt] X.env).map (·.2) = [assign (.Tuple ts' kt pt) X.env] := by rfl) :
    PS X (.Assign [.Tuple ts' kt pt] (.Tuple es k2 pt2) pos) (SemS X.K W (sPar ts fs)) :=
  PS.imp (ps_asg (pe_tup hes) (pg_tup hc hg hn hst) hs hw h1) fun D σ H h => semPar h fun vs H1 _ l k => ⟨by rw [l, line_eq, lineN_eq]; omega, fun p hp => ⟨p, vs, rfl, .inl (.inl upd_same), by rw [l, hl], k p hp⟩⟩
/-- two plain locals -/
theorem s_par2 {i j : Nat} {x y : Str} {a b : Expr} {px py pt pt2 : Pos} {kt k2 : _} (hc : X.calm = true) (hN : X.N.Nodup) (hi : X.N[i]? = some x) (hj : X.N[j]? = some y) (hij : i ≠ j)
    (hx : X.env.scope.names.lookup x = some .local) (hy : X.env.scope.names.lookup y = some .local) (ha : PA X [a, b] (SemRs X.K W fs))
    (hw : swappedStores [.Tuple [.Name x px, .Name y py] kt pt] (.Tuple [a, b] k2 pt2) X.env = pure (some [x, y])) (hs : swapsWithSole [.Tuple [.Name x px, .Name y py] kt pt] (.Tuple [a, b] k2 pt2) pos.line X.env = pure false := by rfl) :
    PS X (.Assign [.Tuple [.Name x px, .Name y py] kt pt] (.Tuple [a, b] k2 pt2) pos) (SemS X.K W (sPar [.nm i, .nm j] fs)) :=
  PS.imp (ps_par hc hN hi hj hij hx hy ha hw hs) fun D σ H h => semPar h fun vs H1 k l _ => by
    match vs, l with
    | [v, w], _ =>
      refine ⟨v, w, rfl, ?_⟩
      obtain ⟨al0, own0, ρ0, H0, al, own, S, own1, ρ1, rs, ρ2, m, r, b, k⟩ := k
      match rs, r, b with
      | [r1, r2], r, b =>
        simp only [bindRs, bindR] at b
        cases q1 : putR i r1 ρ1 with
        | none => simp [q1] at b
        | some ρ3 =>
          simp only [q1] at b
          cases q2 : putR j r2 ρ3 with
          | none => simp [q2] at b
          | some ρ4 =>
            simp only [q2, Option.some.injEq] at b
            subst b
            cases r1 with
            | sh d =>
              obtain ⟨⟨as, rr, z⟩, r⟩ := r
              have m2 := m.ash rr z q1
              cases r2 with
              | sh d2 => obtain ⟨⟨as2, rr2, z2⟩, r⟩ := r; exact k _ _ _ (m2.ash rr2 z2 q2)
              | ow d2 => obtain ⟨a, w1, w2, w3, w4, w5, w6, w7⟩ := r; exact k _ _ _ (m2.aow w1 w2 w3 w4 w5 w6 q2)
            | ow d =>
              obtain ⟨a, w1, w2, w3, w4, w5, w6, r⟩ := r
              have m2 := m.aow w1 w2 w3 w4 w5 w6 q1
              cases r2 with
              | sh d2 => obtain ⟨⟨as2, rr2, z2⟩, r⟩ := r; exact k _ _ _ (m2.ash rr2 z2 q2)
              | ow d2 => obtain ⟨a, w1, w2, w3, w4, w5, w6, w7⟩ := r; exact k _ _ _ (m2.aow w1 w2 w3 w4 w5 w6 q2)
      | [], _, b => simp [bindRs] at b
      | [_], _, b => simp only [bindRs] at b; split at b <;> simp [bindRs] at b
      | _ :: _ :: _ :: _, r, b =>
        simp only [bindRs] at b
        split at b
        · split at b
          · simp [bindRs] at b
          · cases b
        · cases b
/-! ### name += e, of ints -/
def sAug (i : Nat) (f : Ev) (g : Int → Int → Option Int) : EvS := fun ρ => match ρ[i]? with
  | some (some (.sh (.int x))) => (match f ρ with
    | .ok (.sh (.int y)) ρ1 => (match g x y with
      | some z => (match putR i (.sh (.int z)) ρ1 with
        | some ρ2 => .next ρ2
        | none => .stuck)
      | none => .stuck)
    | .exc c ρ1 => .exc c ρ1
    | _ => .stuck)
  | _ => .stuck
theorem semAug {i : Nat} {g : Int → Int → Int} (h : SemS K W (sAug i f fun x y => some (g x y)) D σ H) : tAug i (SemE K W f) (ipI g) D σ H := by
  obtain ⟨al, own, ρ, p, h⟩ := h
  simp only [sAug] at h
  split at h
  · rename_i x e
    obtain ⟨v, e1, as, r, z⟩ := p.sl i _ e
    cases r
    refine ⟨_, e1, al, own, ρ, p, ?_⟩
    cases q : f ρ with
    | stuck => simp only [q] at h; exact h
    | exc c ρ' => simp only [q] at h ⊢; exact ExS.toE h
    | ok r ρ1 =>
      cases r with
      | ow d => simp only [q] at h; exact h.elim
      | sh d =>
        cases d with
        | int y =>
          simp only [q] at h ⊢
          cases q2 : putR i (.sh (.int (g x y))) ρ1 with
          | none => simp only [q2] at h; exact h.elim
          | some ρ2 =>
            simp only [q2] at h
            intro v H' own' as p' s' r' z'
            cases r'
            obtain ⟨p2, s2⟩ := put_sh p' q2 (.int (g x y)) (fun _ z => nomatch z)
            exact ⟨x, y, rfl, rfl, h _ H' _ p2 (s'.trans s2)⟩
        | none => simp only [q] at h; exact h.elim
        | bool _ => simp only [q] at h; exact h.elim
        | str _ => simp only [q] at h; exact h.elim
        | list _ => simp only [q] at h; exact h.elim
        | tuple _ => simp only [q] at h; exact h.elim
        | dict _ => simp only [q] at h; exact h.elim
  · exact h.elim
theorem s_augAdd {i : Nat} {x : Str} {pos' : Pos} (hN : X.N.Nodup) (hi : X.N[i]? = some x) (hx : Loc X.env.scope x) (he : PE X e (SemE X.K W f)) (hf : X.fn x = true ∨ X.env.scope.names.lookup x = some .local := by first | exact .inl rfl | exact .inr rfl | assumption) :
    PS X (.AugAssign (.Name x pos') .Add e pos) (SemS X.K W (sAug i f fun x y => some (x + y))) := PS.imp (ps_aug hN hi hx he ip_add hf) fun _ _ _ h => semAug h
theorem s_augSub {i : Nat} {x : Str} {pos' : Pos} (hN : X.N.Nodup) (hi : X.N[i]? = some x) (hx : Loc X.env.scope x) (he : PE X e (SemE X.K W f)) (hf : X.fn x = true ∨ X.env.scope.names.lookup x = some .local := by first | exact .inl rfl | exact .inr rfl | assumption) :
    PS X (.AugAssign (.Name x pos') .Sub e pos) (SemS X.K W (sAug i f fun x y => some (x - y))) := PS.imp (ps_aug hN hi hx he ip_sub hf) fun _ _ _ h => semAug h
end
end
end Ev
set_option Elab.async false
set_option linter.all false
set_option autoImplicit false
set_option maxRecDepth 100000
/-! Ev16: in suites; dict of pairs; the head's facts with free tests; the law's end. -/
namespace Ev
open PySem PySem.Spec L2
open PyProof.Rows hiding St
noncomputable section
section
variable {K : PySem.W.Frag} {W : WX} {al : Addr → Prop} {own own' : Own} {ρ ρ' : Env} {σ σ1 : St} {H H' : Hp} {X : Cx} {pos p : Pos} {D : Ends} {P : St → Prop} {e a b : Expr} {rest : List Expr} {f fa fb : Ev} {t ta tb : Tv} {x : Str}
theorem SemT.mono {Q Q' : Bool → Hp → Prop} (h : SemT K W t σ H Q) (i : ∀ b H, Q b H → Q' b H) : SemT K W t σ H Q' := by
  obtain ⟨al, own, ρ, p, h⟩ := h
  refine ⟨al, own, ρ, p, ?_⟩
  cases e : t ρ with
  | stuck => simp only [e] at h
  | exc c ρ' => simp only [e] at h ⊢; exact h
  | ok k ρ' => simp only [e] at h ⊢; exact fun H' own' p' s' => i k H' (h H' own' p' s')
theorem w_ev (h : PE X e (wE P (SemE X.K W f))) (he : ∀ whole, isTrue e X.env whole = (do let v ← whole; standAt e.pos; holding [v] (truthy v)) := by intro _; rfl) : PT X e (wT P (SemT X.K W (tvOf f))) :=
  PT.imp (pt_truth h he) fun σ H Q ⟨hp, q⟩ => ⟨hp, SemE.mono (semTv' q) fun v H1 ⟨d, as, b, r, t, q⟩ => ⟨b, truth_ok r t, q⟩⟩
theorem w_n (ha : PT X a (wT P (SemT X.K W ta))) : PT X (.UnaryOp .Not a pos) (wT P (SemT X.K W (tvNot ta))) := PT.imp (pt_not ha) fun _ _ _ ⟨hp, h⟩ => ⟨hp, semNot h⟩
theorem w_a1 (ha : PT X a (wT P (SemT X.K W ta))) : PW X (.BoolOp .And [a] pos) (wT P (SemT X.K W ta)) := pw_and1 ha
theorem w_o1 (ha : PT X a (wT P (SemT X.K W ta))) : PW X (.BoolOp .Or [a] pos) (wT P (SemT X.K W ta)) := pw_or1 ha
theorem w_a (ha : PT X a (wT P (SemT X.K W ta))) (hb : PW X (.BoolOp .And (b :: rest) pos) (wT P (SemT X.K W tb))) : PW X (.BoolOp .And (a :: b :: rest) pos) (wT P (SemT X.K W (tvAnd ta tb))) :=
  PW.imp (pw_and ha hb) fun σ H Q ⟨hp, h⟩ => ⟨hp, SemT.mono (semAnd h) fun k H1 q => by
    cases k with
    | true => simp only [if_true] at q ⊢; exact ⟨hp, q⟩
    | false => simpa using q⟩
theorem w_o (ha : PT X a (wT P (SemT X.K W ta))) (hb : PW X (.BoolOp .Or (b :: rest) pos) (wT P (SemT X.K W tb))) : PW X (.BoolOp .Or (a :: b :: rest) pos) (wT P (SemT X.K W (tvOr ta tb))) :=
  PW.imp (pw_or ha hb) fun σ H Q ⟨hp, h⟩ => ⟨hp, SemT.mono (semOr h) fun k H1 q => by
    cases k with
    | true => simpa using q
    | false => simp only [Bool.false_eq_true, if_false] at q ⊢; exact ⟨hp, q⟩⟩
theorem w_if {c : Expr} (hc : PT X c (wT P (SemT X.K W t))) (ha : PE X a (wE P (SemE X.K W fa))) (hb : PE X b (wE P (SemE X.K W fb))) : PE X (.IfExp c a b pos) (wE P (SemE X.K W (evIf t fa fb))) :=
  PE.imp (pe_ifExp hc ha hb) fun σ H Q ⟨hp, h⟩ => ⟨hp, SemT.mono (semIf h) fun k H1 q => by
    cases k with
    | true => simp only [if_true] at q ⊢; exact ⟨hp, q⟩
    | false => simp only [Bool.false_eq_true, if_false] at q ⊢; exact ⟨hp, q⟩⟩
theorem w_asg {i : Nat} {pos' : Pos} (hN : X.N.Nodup) (hi : X.N[i]? = some x) (hx : Loc X.env.scope x) (he : PE X e (wE P (SemE X.K W f))) (hs : swapsWith e (some (.Name x pos')) pos.line X.env = pure false := by rfl)
    (hf : X.fn x = true ∨ X.env.scope.names.lookup x = some .local := by first | exact .inl rfl | exact .inr rfl | assumption) : PS X (.Assign [.Name x pos'] e pos) (wS P (SemS X.K W (sAsg i f))) := PS.imp (ps_set hN hi hx he hs hf) fun _ _ _ ⟨hp, h⟩ => ⟨hp, semAsg h⟩
theorem w_ret (he : PE X e (wE P (SemE X.K W f))) : PS X (.Return (some e) pos) (wS P (SemS X.K W (sRet f))) := PS.imp (ps_ret he) fun D σ H ⟨hp, al, own, ρ, p, h⟩ => ⟨hp, by
  refine ⟨al, own, ρ, p, ?_⟩
  simp only [sRet] at h
  cases e : f ρ with
  | stuck => simp only [e] at h; exact h
  | exc c ρ' => simp only [e] at h ⊢; exact ExS.toE h
  | ok r ρ' =>
    simp only [e] at h ⊢
    cases r with
    | sh d => exact fun v H' own' as p' s' => h v σ H' own' as p' s'
    | ow d => exact fun v H' own' a p' s' => h v σ H' own' a p' s'⟩
theorem w_one {st : Stmt} {g : EvS} (h : PS X st (wS P (SemS X.K W g))) : PSs X [st] (wS P (SemS X.K W g)) := pss_one h
/-! ### dict([(k, v)]) -/
def keyOf : PyData → Option Key
  | .int i => some (.inl i)
  | .str x => some (.inr x)
  | _ => none
def pDict1 : List PyData → Option Res
  | [.list [.tuple [.int i, d]]] => some (.ow (.dict [(.int i, d)]))
  | [.list [.tuple [.str i, d]]] => some (.ow (.dict [(.str i, d)]))
  | _ => none
theorem ok_dict1 : PmOk K (fun xs H Q => ∃ (a : Addr) (ps : List Addr) (kvs : List (Key × V)), xs = [.ref a] ∧ SqL K H a (ps.map V.ref) ∧ Paired (fun p kv => SqT K H p [kV kv.1, kv.2]) ps kvs ∧
    ∀ p, H p = none → Q (.ref p) (upd H p (.dK (mergeK [] kvs)))) pDict1 := by
  intro Z H vs ds res Q hv h q
  have core : ∀ (k : Key) (d : PyData), VwA K H Z vs [.list [.tuple [keyD k, d]]] → PmQ K Z H Q (.ow (.dict [(keyD k, d)])) → ∃ (a : Addr) (ps : List Addr) (kvs : List (Key × V)), vs = [.ref a] ∧ SqL K H a (ps.map V.ref) ∧ Paired (fun p kv => SqT K H p [kV kv.1, kv.2]) ps kvs ∧
      ∀ p, H p = none → Q (.ref p) (upd H p (.dK (mergeK [] kvs))) := by
    intro k d hv q
    obtain ⟨x, rfl, hx⟩ := hv.one
    obtain ⟨a, xs, as, rfl, h1, r, z⟩ := hx.list
    cases r with
    | cons r1 r2 =>
      cases r2
      cases r1 with
      | tup h2 r3 =>
        cases r3 with
        | cons r4 r5 =>
          cases r5 with
          | cons r6 r7 =>
            cases r7
            rename_i T v1 as1 v2 as2
            have e1 : v1 = kV k := by
              cases k with
              | inl i => cases r4; rfl
              | inr s => cases r4; rfl
            subst e1
            have e2 : as1 = [] := by cases k <;> (cases r4; rfl)
            subst e2
            refine ⟨a, [T], [(k, v2)], rfl, h1, .cons h2 .nil, fun p hp => ?_⟩
            refine q _ _ p (Grow.upd hp) hp ⟨rfl, .inr ⟨[(k, v2)], _, as2 ++ [], rfl, upd_same, .cons ((Grow.upd hp).rp r6) .nil, fun b hb => ?_⟩⟩
            have hb' : b ∈ as2 := by simpa using hb
            exact ⟨z b (by simp [hb']), Rp.there _ _ _ r6 b hb'⟩
  unfold pDict1 at h
  split at h
  · cases h; exact core (.inl _) _ hv q
  · cases h; exact core (.inr _) _ hv q
  · cases h
end
/-! ### the head's facts, with free tests -/
def hookE (n : Nat) (fa : List He.Fa) (fn : List He.DefD) (ex : PySem.W.Frag → Bool) : PySem.W.Hook where
  α := He.AlD × Bool
  obs := fun s => (He.obsD fa fn (He.frG s.heap.get? (He.asD s.heap.get? n)), ex (He.frG s.heap.get? (He.asD s.heap.get? n)))
  val := fun _ => (He.valD fn, true)
  says := fun _ h => ∃ K : PySem.W.Frag, K.In h ∧ He.SaysD fa fn K ∧ ex K = true
  of := fun _ _ e => ⟨_, He.frG_in, congrArg Prod.fst e, congrArg Prod.snd e⟩
  keeps := fun _ _ _ ⟨K, hK, c⟩ k => ⟨K, PySem.W.Frag.In.keeps hK k, c⟩
def obsE (n : Nat) (fa : List He.Fa) (fn : List He.DefD) (ex : PySem.W.Frag → Bool) (g : Addr → Option Obj) : He.AlD × Bool := (He.obsD fa fn (He.frG g (He.asD g n)), ex (He.frG g (He.asD g n)))
theorem obsE_eq {n : Nat} {fa : List He.Fa} {fn : List He.DefD} {ex : PySem.W.Frag → Bool} {g : Addr → Option Obj} {s : Shared} (h : ∀ a, g a = s.heap.get? a) : obsE n fa fn ex g = (hookE n fa fn ex).obs s := by
  have e : g = s.heap.get? := funext h
  rw [e] <;> rfl
/-! classes of errors, told by a table -/
def excCB (K : PySem.W.Frag) (D : Addr) : Bool :=
  decide (PySem.W.findIn K (.ref D) "__getattribute__" = some (some (.builtin "BaseException.__getattribute__"))) && (decide (PySem.W.findIn K (.ref D) "__getattr__" = some none) && (decide (PySem.W.subIn K (.ref D) (.type "BaseException") = some true) && (PySem.W.hasDictIn K D &&
  (decide (PySem.W.findIn K (.ref D) "__class__" = some (some (.builtin "object.__class__"))) && (decide (PySem.W.specialIn K (.builtin "object.__class__") "__get__" = some (some (.builtin "getset_descriptor.__get__"))) && (decide (PySem.W.takesIn K (.builtin "object.__class__") = some true) && decide (PySem.W.mroIn K D (.type "object") = some true)))))))
theorem excCB_ok {K : PySem.W.Frag} {D : Addr} (h : excCB K D = true) : ExcC K D := by
  simp only [excCB, Bool.and_eq_true, decide_eq_true_eq] at h
  obtain ⟨h1, h2, h3, h4, h5, h6, h7, h8⟩ := h
  exact ⟨h1, h2, h3, h4, h5, h6, h7, h8⟩
def tblF (l : List (Str × Str × Bool)) : Str → Str → Option Bool := fun c T => (l.find? fun q => decide (q.1 = c) && decide (q.2.1 = T)).map fun q => q.2.2
def tblB (l : List (Str × Str × Bool)) (K : PySem.W.Frag) : Bool := l.all fun q => decide (PySem.W.exmOne K (.ref (He.ga K q.1)) (clsV K q.2.1) = some q.2.2) && (decide (PySem.W.kitOne K (.ref (He.ga K q.1)) (clsV K q.2.1) = some q.2.2) && excCB K (He.ga K q.1))
theorem tblB_ok {l : List (Str × Str × Bool)} {K : PySem.W.Frag} (h : tblB l K = true) : XF K (tblF l) := by
  have g : ∀ c T b, tblF l c T = some b → PySem.W.exmOne K (.ref (He.ga K c)) (clsV K T) = some b ∧ PySem.W.kitOne K (.ref (He.ga K c)) (clsV K T) = some b ∧ excCB K (He.ga K c) = true := by
    intro c T b e
    unfold tblF at e
    obtain ⟨q, e1, e2⟩ := Option.map_eq_some_iff.mp e
    have hm := List.mem_of_find?_eq_some e1
    have hp := List.find?_some e1
    simp only [Bool.and_eq_true, decide_eq_true_eq] at hp
    have z := List.all_eq_true.mp h q hm
    simp only [Bool.and_eq_true, decide_eq_true_eq] at z
    rw [← hp.1, ← hp.2, ← e2]
    exact z
  exact ⟨fun c T b e => (g c T b e).1, fun c T b e => (g c T b e).2.1, fun c T b e => excCB_ok (g c T b e).2.2⟩
/-! ### the law's end -/
theorem rp_ints {K : PySem.W.Frag} {H : Hp} : ∀ ns : List Int, RpA K H (ns.map V.int) (ns.map PyData.int) []
  | [] => .nil
  | n :: ns => .cons (.int n) (rp_ints ns)
theorem law_sp {K : PySem.W.Frag} {H : Hp} {k : Nat} {F : FnV} {a : Addr} {ns : List Int} {ρ' : Env} (hS : SqL K H a (ns.map V.int)) (hF : F [.sh (.list (ns.map PyData.int))] = .ret (.sh (.bool true)) ρ') : spV K 1 k F [.ref a] H (fun v _ => v = .bl true) fun _ _ _ => False := by
  refine ⟨rfl, fun _ => True, fun _ => none, [.sh (.list (ns.map PyData.int))], ?_, ?_⟩
  · refine ⟨fun _ _ => trivial, fun i j a e => (nomatch e), fun i a e => (nomatch e), by simp [entry], fun i s e => ?_⟩
    have e := entry_get e
    cases i with
    | zero =>
      cases e
      refine ⟨.ref a, rfl, ?_⟩
      rcases hS with h | h
      · exact ⟨_, .lst h (rp_ints ns), fun b _ => ⟨trivial, fun i e => (nomatch e)⟩⟩
      · exact ⟨_, .lsk h (rp_ints ns), fun b _ => ⟨trivial, fun i e => (nomatch e)⟩⟩
    | succ i => simp at e
  · rw [hF]
    intro v σ' H' own' as _ _ r _
    cases r
    rfl
theorem cx_none {P : Program} {w : World} {H : Hp} {s : Shared} {e : Value} {s' : Shared} (h : L2.CX P w [] H s (fun _ _ _ => False) e s') : False := by
  obtain ⟨_, _, _, _, _, _, _, _, _, _, _, _, z⟩ := h
  exact z
end
end Ev
namespace Ev
open PySem PySem.Spec L2 PyProof.Rows
section
variable {P : Program} {w : World} {K : PySem.W.Frag} {mg mb : Str → Option Value} {CX : CXT} {k : Nat} {g a : Addr} {fd : FuncData} {x : Str} {sp : Sp} {t : Shared} {us : List Value} {ns : List Int}
/-- the end that is wanted -/
def GoodEnd (t : Shared) (r : Result) (t' : Shared) : Prop := r = .ok (.ret (.bool true)) ∧ OldK t.heap t'.heap ∧ t'.os = t.os ∧ AllBare t'.gens
/-- the law's def is called where nothing but the script, if anything, is tracked -/
theorem law_core (KX : K.In t.heap) (nm : t.heap.Ns mainGlobals mg) (nb : t.heap.Ns builtinsNs mb) (bb : ∀ x : Str, x ≠ "__name__" → mb x = bootBuiltins x) (nl : t.heap.NoLimit) (ge : t.gens = #[])
    (ea : t.heap.get? a = some { cls := .type "list", data := .seq us.toArray }) (room : RoomG k callerA) (F : ∀ base : Heap, K.In base → base.Ns mainGlobals mg → FnG P w K mg base CX k g fd [x] sp)
    (bind : ∀ (s : Shared) (u : Value), BindsTo s fd ⟨[u], []⟩ [(x, u)]) (noX : ∀ H e t', CX [] H t (fun _ _ _ => False) e t' → False) {H : Hp} (hO : Only H) (good : sp [.ref a] H (fun v _ => v = .bl true) fun _ _ _ => False)
    (ok : HOk P w H t.heap) (alone : ∀ b, H b ≠ none → b = a) (apart : H a ≠ none → K.lookup a = none) : codeAny (model P w) callerA (.call (.ref g) ⟨[.ref a], []⟩) (GoodEnd t) t := by
  have below : ∀ {b : Addr} {o : Obj}, t.heap.get? b = some o → H b = none → (hidT t.heap H).get? b = some o := fun e n => hidT_get e n
  have free : ∀ {b : Addr} {o : Obj}, t.heap.get? b = some o → (b = a → False) → (hidT t.heap H).get? b = some o := fun {b o} e n => below e (Classical.byContradiction fun z => n (alone b z))
  have names : ∀ {b : Addr} {m : Str → Option Value}, t.heap.Ns b m → (hidT t.heap H).Ns b m := fun {b m} ⟨o, es, ep, e, d, r⟩ => by
    refine ⟨o, es, ep, free e fun z => ?_, d, r⟩
    subst z
    rw [ea] at e
    cases e
    cases d
  have kin : K.In (hidT t.heap H) := fun b o e => by
    by_cases n : H b = none
    · exact below (KX b o e) n
    · have z := alone b n
      subst z
      rw [apart n] at e
      cases e
  have md : Mod K mg (hidT t.heap H) := ⟨kin, names nm, ⟨mb, names nb, bb⟩, let ⟨mc, h1, h2⟩ := nl; ⟨mc, names h1, h2⟩⟩
  have start : Env0 P w K mg (hidT t.heap H) callerA [] t H := ⟨rfl, md, fun b o e => of_hidT e, Nat.le_of_eq (hidT_size _ _), trivial, fun b z => absurd (show b ∈ ([] : List Addr) from z) (by simp), ok, .of_eq ge⟩
  refine codeAny_mono ((F _ kin (names nm)).go callerA [] t H ⟨[.ref a], []⟩ [.ref a] [.ref a] _ _ room start (bind t (.ref a)) (.cons rfl .nil) good) fun r t' z => ?_
  cases r with
  | error e => exact (noX H e t' z).elim
  | ok fl =>
    cases fl with
    | next => exact z.elim
    | brk => exact z.elim
    | cont => exact z.elim
    | ret u =>
      obtain ⟨v, H', os, bare, un, ok', rv, q⟩ := z
      cases (show v = .bl true from q)
      cases (show u = Value.bool true from rv)
      refine ⟨rfl, OldK.of_keep fun b o e => ?_, os, bare⟩
      cases q : H b with
      | none => exact un.keep b o e q (fun z => absurd (show b ∈ ([] : List Addr) from z) (by simp)) (by simp)
      | some y =>
        rcases hO b with z | ⟨ob, xs, z⟩
        · rw [q] at z
          cases z
        · have e1 := (ok b _ z).1
          have e2 := (ok' b _ (un.frzs b ob _ z)).1
          rw [e] at e1
          cases e1
          exact e2
theorem law_callG (KX : K.In t.heap) (nm : t.heap.Ns mainGlobals mg) (nb : t.heap.Ns builtinsNs mb) (bb : ∀ x : Str, x ≠ "__name__" → mb x = bootBuiltins x) (nl : t.heap.NoLimit) (ge : t.gens = #[])
    (ea : t.heap.get? a = some { cls := .type "list", data := .seq us.toArray }) (hi : IntsAre us ns) (hl : ns.length ≤ sizeLine) (room : RoomG k callerA) (F : ∀ base : Heap, K.In base → base.Ns mainGlobals mg → FnG P w K mg base CX k g fd [x] sp)
    (bind : ∀ (s : Shared) (u : Value), BindsTo s fd ⟨[u], []⟩ [(x, u)]) (noX : ∀ H e t', CX [] H t (fun _ _ _ => False) e t' → False) (good : ∀ H : Hp, Only H → SqL K H a (ns.map V.int) → sp [.ref a] H (fun v _ => v = .bl true) fun _ _ _ => False) :
    codeAny (model P w) callerA (.call (.ref g) ⟨[.ref a], []⟩) (GoodEnd t) t := by
  have rel := vals_ints hi
  cases at_ : K.lookup a with
  | some o =>
    have e := KX a o at_
    rw [ea] at e
    cases e
    have q : SqL K (fun _ => none) a (ns.map V.int) := .inr ⟨_, us.toArray, _, at_, rfl, rfl, rfl, by rw [List.size_toArray, hi.length]; exact hl, by simpa using rel⟩
    exact law_core KX nm nb bb nl ge ea room F bind noX (fun _ => .inl rfl) (good _ (fun _ => .inl rfl) q) (fun b u z => nomatch (show (none : Option HO) = some u from z)) (fun b z => (z rfl).elim) fun z => (z rfl).elim
  | none =>
    have here : upd (fun _ => none) a (.frz { cls := .type "list", data := .seq us.toArray } (.lst (ns.map V.int))) a = some (.frz { cls := .type "list", data := .seq us.toArray } (.lst (ns.map V.int))) := upd_same
    have other : ∀ b, b ≠ a → upd (fun _ => none) a (.frz { cls := .type "list", data := .seq us.toArray } (.lst (ns.map V.int))) b = none := fun b hb => upd_ne hb
    have hO : Only (upd (fun _ => none) a (.frz { cls := .type "list", data := .seq us.toArray } (.lst (ns.map V.int)))) := fun b => by
      by_cases hb : b = a
      · subst hb
        exact .inr ⟨_, _, here⟩
      · exact .inl (other b hb)
    refine law_core KX nm nb bb nl ge ea room F bind noX hO (good _ hO (.inl (.inr ⟨_, here⟩))) (fun b u z => ?_) (fun b z => Classical.byContradiction fun n => z (other b n)) fun _ => at_
    by_cases hb : b = a
    · subst hb
      cases here.symm.trans z
      exact ⟨ea, by rw [List.length_map]; exact hl, us, _, rel, ea⟩
    · cases (other b hb).symm.trans z
end
theorem walk_ofG {l : PySem.W.OpenLaw} {n k : Nat} {q : Program} {loose : List Str} {XP : (Str → Option Value) → Heap → Prop} {YP : World → Heap → Prop} {d : DefRec} {CX : World → CXT} {x : Str}
    (hn : l.most = some n) (hn2 : n ≤ sizeLine) (hdf : d.params.defaults = []) (hr : Room k callerA)
    (F : ∀ (w : World) (mg : Str → Option Value) (g : Addr) (h : Heap), YP w h → h.Ns mainGlobals mg → mg d.name = some (.ref g) →
      ∃ (K : PySem.W.Frag) (fd : FuncData) (sp : Sp), K.In h ∧ (∀ (s : Shared) (u : Value), BindsTo s fd ⟨[u], []⟩ [(x, u)]) ∧
        (∀ (H : Hp) (a : Addr) (ns : List Int), ns.length ≤ n → (∀ z ∈ ns, Builtin.Int.intBits z ≤ 1048576) → Only H → SqL K H a (ns.map V.int) → sp [.ref a] H (fun v _ => v = .bl true) fun _ _ _ => False) ∧
        ∀ base : Heap, K.In base → base.Ns mainGlobals mg → FnG l.prog w K mg base (CX w) k g fd [x] sp)
    (noX : ∀ (w : World) (H : Hp) (s : Shared) (e : Value) (s' : Shared), CX w [] H s (fun _ _ _ => False) e s' → False) :
    PySem.W.WalkO q loose XP YP l.row.toRowW d [] (fun f vs => PySem.call f vs) := by
  refine Att.attach_callB hn hdf fun w s₀ s₁ mg mb g o pm cd doc a vs ns G Y ho hd hcd hmg hobj hints hlen hbits hg => ?_
  obtain ⟨K, fd, sp, KX, hb, good, hF⟩ := F w mg g _ Y G.T.g hmg
  exact law_callG KX G.T.g G.T.b G.T.builtins G.T.nolimit hg hobj hints (Nat.le_trans hlen hn2) ⟨hr, rfl⟩ hF hb (fun H e s' => noX w H s₁ e s') fun H hO hS => good H a ns hlen hbits hO hS
end Ev
set_option Elab.async false
set_option linter.all false
set_option autoImplicit false
set_option maxRecDepth 100000
/-! Ev17: a new list handed in to be changed. -/
namespace Ev
open PySem PySem.Spec L2
open PyProof.Rows hiding St
noncomputable section
/-- f(e): e makes a list (dict) of its own, which the def may change; it is gone behind the call -/
def evCallT (F : FnV) (f : Ev) : Ev := fun ρ => match f ρ with
  | .ok (.ow d) ρ1 => (match F [.io d] with
    | .ret r _ => .ok r ρ1
    | .next _ => .ok (.sh .none) ρ1
    | .exc c _ => .exc c ρ1
    | _ => .stuck)
  | .exc c ρ1 => .exc c ρ1
  | _ => .stuck
section
variable {K : PySem.W.Frag} {W : WX} {al : Addr → Prop} {own own' : Own} {ρ ρ' ρ1 : Env} {σ σ1 σ' : St} {H H' H1 : Hp} {X : Cx} {pos p : Pos} {e : Expr} {f : Ev} {k lv : Nat} {ps : List Str} {F : FnV} {x : Str}
def own1 (a : Addr) : Own := fun j => if j = 0 then some a else none
theorem own1_some {a b : Addr} {j : Nat} (h : own1 a j = some b) : j = 0 ∧ b = a := by
  unfold own1 at h
  split at h
  · rename_i hj; exact ⟨hj, (Option.some.inj h).symm⟩
  · cases h
theorem tmp_pre {v : V} {d : PyData} {a : Addr} (p : Pre K (fun b => al b ∧ b ≠ a) own ρ σ H) (o : OwV K H (Zf (fun b => al b ∧ b ≠ a) own) v d a) : Pre K (Zf (fun b => al b ∧ b ≠ a) own) (own1 a) (entry [.io d] k) ([v].map some ++ List.replicate k none) H := by
  refine ⟨fun b h => p.freeN h, fun i j b h h' => (own1_some h).1.trans (own1_some h').1.symm, fun i b h => ?_, by simp [entry], fun i s h => ?_⟩
  · obtain ⟨_, rfl⟩ := own1_some h
    obtain ⟨_, ⟨_, _, _, _, z, _⟩ | ⟨_, _, _, _, z, _⟩⟩ := o
    · exact ⟨_, z, trivial⟩
    · exact ⟨_, z, trivial⟩
  · have h := entry_get h
    cases i with
    | succ i => simp at h
    | zero =>
      cases h
      exact ⟨v, rfl, a, rfl, o.mono fun b hb => ⟨hb, fun j e => hb.1.2 (own1_some e).2⟩⟩
theorem tmp_back {d : PyData} {a : Addr} {oa : HO} {P : Addr → Prop} (ea : H a = some oa) (hm : Mut (some oa)) (hP : ∀ b, H b ≠ none → P b) (hPf : ∀ b, H' b = none → P b) (p : Pre K (fun b => al b ∧ b ≠ a) own ρ σ H) (s : Stp (own1 a) (entry [.io d] k) H own' ρ' H') (hf : Free own a) :
    Pre K (fun b => al b ∧ P b) own ρ σ H' := by
  have hk : ∀ b o, H b = some o → ¬ (b = a) → H' b = some o := fun b o e hb => s.keep b o e fun ⟨i, _, e, _⟩ => hb (own1_some e).2
  have zn : ∀ b, Zf (fun b => al b ∧ b ≠ a) own b → ¬ b = a := fun b z => z.1.2
  have hmm : ∀ b, b = a → ∃ o, H b = some o ∧ Mut (some o) := fun b q => ⟨oa, q ▸ ea, hm⟩
  have zz : ∀ b, Zf (fun b => al b ∧ b ≠ a) own b → H b ≠ none → Zf (fun b => al b ∧ P b) own b := fun b z t => ⟨⟨z.1.1, hP b t⟩, z.2⟩
  refine ⟨fun b h => ⟨(p.fr b (s.dom b h)).1, hPf b h⟩, p.inj, fun i b h => ?_, p.len, fun i t h => ?_⟩
  · obtain ⟨o, e, m⟩ := p.mu i b h
    exact ⟨o, hk b o e fun q => hf i (q ▸ h), m⟩
  · obtain ⟨v', h1, h2⟩ := p.sl i t h
    refine ⟨v', h1, ?_⟩
    have ow : ∀ {d : PyData} {x : Addr}, own i = some x → OwV K H (Zf (fun b => al b ∧ b ≠ a) own) v' d x → OwV K H' (Zf (fun b => al b ∧ P b) own) v' d x := fun {d x} q o => OwV.keep (Wd := fun b => b = a) hk hmm o (fun e => hf i (e ▸ q)) zn zz
    cases t with
    | sh d => obtain ⟨as, r, z⟩ := h2; exact ⟨as, Rp.keep (W := fun b => b = a) hk hmm _ _ _ r fun b hb => zn b (z b hb), fun b hb => zz b (z b hb) (Rp.there _ _ _ r b hb)⟩
    | ow d => obtain ⟨x, q, o, z⟩ := h2; obtain ⟨y, yo, _⟩ := p.mu i x q; exact ⟨x, q, ow q o, z.1, hP x (by rw [yo]; exact fun z => nomatch z)⟩
    | io d => obtain ⟨x, q, o⟩ := h2; exact ⟨x, q, ow q o⟩
    | lk d => obtain ⟨x, q, o⟩ := h2; exact ⟨x, q, ow q o⟩
    | ex x c => exact h2
theorem tmp_stp {d : PyData} {a : Addr} {own0 : Own} {ρ0 : Env} {H0 : Hp} (s0 : Stp own0 ρ0 H0 own ρ H) (s : Stp (own1 a) (entry [.io d] k) H own' ρ' H') (hw : H0 a = none ∨ Wr own0 ρ0 a) : Stp own0 ρ0 H0 own ρ H' where
  keep := fun b o e w => s.keep b o (s0.keep b o e w) fun ⟨i, _, e1, _⟩ => by
    have q := (own1_some e1).2
    subst q
    rcases hw with h | h
    · rw [h] at e; cases e
    · exact w h
  dom := fun b e => s0.dom b (s.dom b e)
  nw := s0.nw
  fz := s0.fz
  lk := s0.lk
  io := s0.io
  ln := s0.ln
theorem semCallT {Q : VK} (h : SemE K W (evCallT F f) σ H Q) : SemE K W f σ H fun v H1 => spV K 1 k F [v] H1 Q (WE W σ) := by
  obtain ⟨al, own, ρ, p, h⟩ := h
  refine ⟨al, own, ρ, p, ?_⟩
  simp only [evCallT] at h
  cases e : f ρ with
  | stuck => simp only [e] at h
  | exc c ρ1 => simp only [e] at h ⊢; exact h
  | ok r ρ1 =>
    cases r with
    | sh d => simp only [e] at h
    | ow d =>
      simp only [e] at h ⊢
      intro v H1 own1' a p1 s1 o ha hf hw
      obtain ⟨oa, ea, hm⟩ : ∃ oa, H1 a = some oa ∧ Mut (some oa) := by
        obtain ⟨_, ⟨_, _, _, _, z, _⟩ | ⟨_, _, _, _, z, _⟩⟩ := o
        · exact ⟨_, z, trivial⟩
        · exact ⟨_, z, trivial⟩
      refine ⟨rfl, _, own1 a, [.io d], tmp_pre p1 o, ?_⟩
      cases e4 : F [.io d] with
      | stuck => simp only [e4] at h
      | brk ρ' => simp only [e4] at h
      | cont ρ' => simp only [e4] at h
      | exc c ρ' =>
        simp only [e4] at h
        exact fun σ' H' own' q s => h H' own1' ((tmp_back (P := fun _ => True) ea hm (fun _ _ => trivial) (fun _ _ => trivial) p1 s hf).mono fun b hb => hb.1) (tmp_stp s1 s hw)
      | next ρ' =>
        simp only [e4] at h
        exact fun σ' H' own' q s => h .non H' own1' [] ((tmp_back (P := fun _ => True) ea hm (fun _ _ => trivial) (fun _ _ => trivial) p1 s hf).mono fun b hb => hb.1) (tmp_stp s1 s hw) .non (fun _ z => nomatch z)
      | ret r ρ' =>
        simp only [e4] at h
        cases r with
        | sh d2 => exact fun v' σ' H' own' bs q s r z => h v' H' own1' bs ((tmp_back (P := fun _ => True) ea hm (fun _ _ => trivial) (fun _ _ => trivial) p1 s hf).mono fun b hb => hb.1) (tmp_stp s1 s hw) r fun b hb => (z b hb).1.mono fun b h => h.1
        | ow d2 =>
          intro v' σ' H' own' a2 q s o2 ha2 hf2 hw2
          have hn : H1 a2 = none := hw2.elim id fun ⟨i, t, e1, e2, e3⟩ => by
            obtain ⟨rfl, q2⟩ := own1_some e1
            have := (s.io 0 d (by rfl)).2
            rw [e1] at this
            exact (hf2 0 this).elim
          have pp := tmp_back (P := fun b => b ≠ a2) ea hm (fun b hb q => hb (q ▸ hn)) (fun b hb => (q.fr b hb).2) p1 s hf
          exact h v' H' own1' a2 pp (tmp_stp s1 s hw) (o2.mono fun b hb => ⟨⟨hb.1.1.1.1, hb.1.2⟩, hb.1.1.2⟩) ha2.1.1 ha2.2 (.inl (s1.dom _ hn))
theorem pe_fnT (kn : Kn X.prog X.w X.K X.mg X.base lv x ps k F) (hr : RoomG lv X.A) (hg : Gl X x) (tk : Takes X W) (ha : PE X e (SemE X.K W f)) (hn : ps.length = 1 := by rfl)
    (hdb : (x == ("__debug__" : Str)) = false := by decide) (he : starEach [e] X.env = (false, eval e X.env) :: starEach [] X.env := by rfl) :
    PE X (.Call (.Name x p) [e] [] pos) (SemE X.K W (evCallT F f)) := by
  obtain ⟨g, fd, h1, h2, h3, h4, h5⟩ := kn
  refine PE.imp (pe_callG h1 hr hg h2 h3 (.all h4) (passAt tk) (pa_cons ha pa_nil he) hdb he) fun σ H Q h => ?_
  rw [hn]
  exact semCallT h
end
end
end Ev
set_option linter.all false
set_option autoImplicit false
set_option maxRecDepth 100000
/-! Ev18: plain laws of the evaluators. -/
namespace Ev
open PySem PySem.Spec L2
open PyProof.Rows hiding St
noncomputable section
theorem lcGo_pure {t : Tg} {vs : List Nat} {tt : Tv} {te : Ev} {ρ0 : Env} (p : PyData → Bool) (g : PyData → PyData) : ∀ (items acc : List PyData), (∀ d ∈ items, ∃ ρ1 ρ2, bindT t d ρ0 = some ρ1 ∧ tt ρ1 = .ok (p d) ρ2 ∧ (p d = true → ∃ r ρ3, te ρ2 = .ok r ρ3 ∧ r.d = g d ∧ wipeE ρ3 vs = ρ0) ∧ (p d = false → wipeE ρ2 vs = ρ0)) →
    lcGo t vs tt te items acc ρ0 = .ok (acc ++ (items.filter p).map g) ρ0
  | [], acc, _ => by simp [lcGo]
  | d :: items, acc, h => by
    obtain ⟨ρ1, ρ2, h1, h2, h3, h4⟩ := h d (by simp)
    have ih := fun acc => lcGo_pure p g items acc fun d hd => h d (by simp [hd])
    simp only [lcGo, h1, h2]
    cases hp : p d with
    | true =>
      obtain ⟨r, ρ3, e1, e2, e3⟩ := h3 hp
      simp only [e1, e3, e2, ih]
      simp [hp]
    | false =>
      simp only [h4 hp, ih]
      simp [hp]
theorem lcGo_map {t : Tg} {vs : List Nat} {tt : Tv} {te : Ev} {ρ0 : Env} (g : PyData → PyData) (items acc : List PyData) (h : ∀ d ∈ items, ∃ ρ1 ρ2, bindT t d ρ0 = some ρ1 ∧ tt ρ1 = .ok true ρ2 ∧ ∃ r ρ3, te ρ2 = .ok r ρ3 ∧ r.d = g d ∧ wipeE ρ3 vs = ρ0) :
    lcGo t vs tt te items acc ρ0 = .ok (acc ++ items.map g) ρ0 := by
  have e : items.filter (fun _ => true) = items := List.filter_eq_self.mpr fun _ _ => rfl
  have q := lcGo_pure (t := t) (vs := vs) (tt := tt) (te := te) (ρ0 := ρ0) (fun _ => true) g items acc fun d hd => by
    obtain ⟨ρ1, ρ2, h1, h2, h3⟩ := h d hd
    exact ⟨ρ1, ρ2, h1, h2, fun _ => h3, fun h => by cases h⟩
  rw [q, e]
/-- every turn goes on -/
theorem forGo_inv {t : Tg} {body : EvS} (I : Nat → Env → Prop) : ∀ (items : List PyData) (k : Nat) (ρ : Env), I k ρ → (∀ i d ρ, items[i]? = some d → I (k + i) ρ → ∃ ρ1 ρ2, bindT t d ρ = some ρ1 ∧ (body ρ1 = .next ρ2 ∨ body ρ1 = .cont ρ2) ∧ I (k + i + 1) ρ2) →
    ∃ ρ', forGo t body items ρ = .next ρ' ∧ I (k + items.length) ρ'
  | [], k, ρ, h0, _ => ⟨ρ, rfl, by simpa using h0⟩
  | d :: items, k, ρ, h0, h => by
    obtain ⟨ρ1, ρ2, h1, h2, h3⟩ := h 0 d ρ rfl h0
    obtain ⟨ρ', e1, e2⟩ := forGo_inv I items (k + 1) ρ2 h3 fun i d ρ hi hI => by
      have := h (i + 1) d ρ (by simpa using hi) (by rw [show k + (i + 1) = k + 1 + i by omega]; exact hI)
      rw [show k + (i + 1) + 1 = k + 1 + i + 1 by omega] at this
      exact this
    refine ⟨ρ', ?_, by rw [List.length_cons, show k + (items.length + 1) = k + 1 + items.length by omega]; exact e2⟩
    rcases h2 with h2 | h2 <;> simp only [forGo, h1, h2, e1]
theorem shp_int (i : Int) : shp (.int i) = true := by simp [shp, SeqAt.shaped, PyData.canLay0, PyData.depth]
theorem shp_str {i : Str} (h : PyData.strOk i = true) : shp (.str i) = true := by simp [shp, SeqAt.shaped, PyData.canLay0, PyData.depth, h]
theorem shp_bool (i : Bool) : shp (.bool i) = true := by simp [shp, SeqAt.shaped, PyData.canLay0, PyData.depth]
theorem shp_none : shp .none = true := by simp [shp, SeqAt.shaped, PyData.canLay0, PyData.depth]
theorem fEq_int (i j : Int) : fEq (.int i) (.int j) = some (.sh (.bool (decide (i = j)))) := by
  have e : (PyData.int i).eqv (.int j) = decide (i = j) := by
    simp only [PyData.eqv]
    by_cases h : i = j <;> simp [h]
  simp [fEq, shp_int, e]
theorem fNe_int (i j : Int) : fNe (.int i) (.int j) = some (.sh (.bool (!decide (i = j)))) := by
  have e : (PyData.int i).eqv (.int j) = decide (i = j) := by
    simp only [PyData.eqv]
    by_cases h : i = j <;> simp [h]
  simp [fNe, shp_int, e]
theorem fNe_bool' (i j : Bool) : fNe (.bool i) (.bool j) = some (.sh (.bool (i != j))) := by
  have e : (PyData.bool i).eqv (.bool j) = (i == j) := by simp only [PyData.eqv]
  simp [fNe, shp_bool, e, bne]
theorem fEq_str {i j : Str} (h1 : PyData.strOk i = true) (h2 : PyData.strOk j = true) : fEq (.str i) (.str j) = some (.sh (.bool (i == j))) := by
  have e : (PyData.str i).eqv (.str j) = (i == j) := by simp only [PyData.eqv]
  simp [fEq, shp_str h1, shp_str h2, e]
/-! ### bits -/
def L (i : Int) : Nat := i.natAbs.log2
theorem L_lt {i : Int} {n : Nat} (h : i.natAbs < 2 ^ (n + 1)) : L i ≤ n := by
  unfold L
  by_cases h0 : i.natAbs = 0
  · rw [h0]; rw [show Nat.log2 0 = 0 from by decide]; exact Nat.zero_le _
  · exact Nat.lt_succ_iff.mp ((Nat.log2_lt h0).mpr h)
theorem lt_L (i : Int) : i.natAbs < 2 ^ (L i + 1) := Nat.lt_log2_self
theorem L_le {i : Int} {n : Nat} (h : L i ≤ n) : i.natAbs < 2 ^ (n + 1) := Nat.lt_of_lt_of_le (lt_L i) (Nat.pow_le_pow_right (by decide) (by omega))
theorem L_mul (i j : Int) : L (i * j) ≤ L i + L j + 1 := by
  apply L_lt
  rw [Int.natAbs_mul]
  calc i.natAbs * j.natAbs < 2 ^ (L i + 1) * 2 ^ (L j + 1) := Nat.mul_lt_mul'' (lt_L i) (lt_L j)
    _ = 2 ^ (L i + L j + 1 + 1) := by rw [← Nat.pow_add]; congr 1; omega
theorem L_add {i j : Int} {n : Nat} (h1 : L i ≤ n) (h2 : L j ≤ n) : L (i + j) ≤ n + 1 := by
  apply L_lt
  have h1 := L_le h1
  have h2 := L_le h2
  have h3 : (i + j).natAbs ≤ i.natAbs + j.natAbs := Int.natAbs_add_le i j
  rw [Nat.pow_succ]
  omega
theorem L_sub {i j : Int} {n : Nat} (h1 : L i ≤ n) (h2 : L j ≤ n) : L (i - j) ≤ n + 1 := by
  apply L_lt
  have h1 := L_le h1
  have h2 := L_le h2
  have h3 : (i - j).natAbs ≤ i.natAbs + j.natAbs := Int.natAbs_sub_le i j
  rw [Nat.pow_succ]
  omega
theorem L_mono {i j : Int} (h : i.natAbs ≤ j.natAbs) : L i ≤ L j := L_lt (Nat.lt_of_le_of_lt h (lt_L j))
theorem L_div (i : Int) {j : Int} (hi : 0 ≤ i) (hj : 0 < j) : L (i / j) ≤ L i := L_mono (by
  have h1 : 0 ≤ i / j := Int.ediv_nonneg hi (Int.le_of_lt hj)
  have h2 : i / j ≤ i := Int.ediv_le_self j hi
  omega)
theorem mulB_L {i j : Int} (h : L i + L j < 130000000) : mulB i j = true := by
  unfold mulB
  rw [n64_eq, bigN_eq]
  unfold L at h
  simp [h]
theorem mulB_small {i j : Int} (h : i.natAbs < 2 ^ 64) : mulB i j = true := by
  unfold mulB
  rw [n64_eq, bigN_eq]
  simp [h]
theorem mulB_small' {i j : Int} (h : j.natAbs < 2 ^ 64) : mulB i j = true := by
  unfold mulB
  rw [n64_eq, bigN_eq]
  simp [h]
theorem divB_L {i j : Int} (h : 0 < j) (h2 : L j < 9000) : divB i j = true := by
  unfold divB
  unfold L at h2
  simp [h, h2]
theorem modB_pos {i j : Int} (h : 0 < j) : modB i j = true := by
  unfold modB
  simp [h]
/-! ### the feed of drawn numbers -/
def FeedOk (n : Nat) (d : PyData) : Prop := ∃ a b c : Int, d = .list [.int a, .int b, .int c] ∧ 0 ≤ a ∧ L a ≤ 2000000 ∧ 0 ≤ b ∧ b < 10 ^ 40 ∧ 0 ≤ c ∧ c ≤ n
theorem sSeq_next {a b : EvS} {ρ ρ1 : Env} (h : a ρ = .next ρ1) : sSeq a b ρ = b ρ1 := by
  unfold sSeq
  rw [h]
theorem evFor_run {os : List Opd} {mk : List PyData → Option (List PyData)} {t : Tg} {body : EvS} {ρ ρ1 : Env} {as : List Arg} {ds items : List PyData} {o : OutS} (h1 : evOs os ρ = .ok as ρ1) (h2 : looks ρ1 as = some ds) (h3 : mk ds = some items) (h4 : forGo t body items (lks as ρ1) = o) :
    evFor os mk t body ρ = o.on (uns as ρ1) := by
  unfold evFor
  rw [h1]
  dsimp only
  rw [h2]
  dsimp only
  rw [h3]
  dsimp only
  rw [h4]
theorem free_none : Sl.free none = true := rfl
theorem free_sh (d : PyData) : Sl.free (some (.sh d)) = true := rfl
theorem free_ow (d : PyData) : Sl.free (some (.ow d)) = true := rfl
theorem free_ex (a : Addr) (c : Str) : Sl.free (some (.ex a c)) = true := rfl
theorem free_io (d : PyData) : Sl.free (some (.io d)) = false := rfl
theorem free_lk (d : PyData) : Sl.free (some (.lk d)) = false := rfl
/-! ### places and stretches -/
theorem cutD_to {α : Type} (xs : List α) (k : Nat) : cutD xs none (some (k : Int)) = xs.take k := by
  unfold cutD
  rw [HT.sIx_none, HT.sIx_nat, List.drop_zero, Nat.sub_zero]
  by_cases h : k ≤ xs.length
  · rw [Nat.min_eq_left h]
  · rw [Nat.min_eq_right (by omega), List.take_of_length_le (Nat.le_refl _), List.take_of_length_le (by omega)]
theorem cutD_from {α : Type} (xs : List α) (k : Nat) : cutD xs (some (k : Int)) none = xs.drop k := by
  unfold cutD
  rw [HT.sIx_none, HT.sIx_nat]
  by_cases h : k ≤ xs.length
  · rw [Nat.min_eq_left h, List.take_of_length_le (by rw [List.length_drop]; exact Nat.le_refl _)]
  · rw [Nat.min_eq_right (by omega), List.drop_of_length_le (Nat.le_refl _), List.drop_of_length_le (by omega), List.take_nil]
theorem intsD_map (ns : List Int) : intsD (ns.map PyData.int) = some ns := by
  induction ns with
  | nil => rfl
  | cons n ns ih => simp [intsD, ih]
theorem blsD_map (ns : List Bool) : blsD (ns.map PyData.bool) = some ns := by
  induction ns with
  | nil => rfl
  | cons n ns ih => simp [blsD, ih]
theorem blsD_map' {α : Type} (f : α → Bool) (ds : List α) : blsD (ds.map fun d => PyData.bool (f d)) = some (ds.map f) := by
  induction ds with
  | nil => rfl
  | cons n ns ih => simp [blsD, ih]
theorem pAll_map {α : Type} (f : α → Bool) (ds : List α) : pAll [.list (ds.map fun d => PyData.bool (f d))] = some (.sh (.bool (ds.all f))) := by
  simp only [pAll, blsD_map', Option.map_some, List.all_map]
  congr 4
theorem L_bits {i : Int} {n : Nat} (h : Builtin.Int.intBits i ≤ n) : L i ≤ n := by
  unfold Builtin.Int.intBits at h
  unfold L
  split at h
  · rename_i h0
    have : i = 0 := by simpa using h0
    subst this
    rw [show (0 : Int).natAbs = 0 from rfl, show Nat.log2 0 = 0 from by decide]
    exact Nat.zero_le _
  · omega
end
end Ev
set_option Elab.async false
set_option linter.all false
set_option autoImplicit false
set_option maxRecDepth 100000
/-! Ev19: more plain operations over data: == of any texts, in, repr, min, max, sorted, index; comparisons in a chain. -/
namespace Ev
open PySem PySem.Spec L2
open PyProof.Rows hiding St
noncomputable section
section
variable {K : PySem.W.Frag} {W : WX} {al : Addr → Prop} {own own' : Own} {ρ ρ' : Env} {σ : St} {H H' : Hp} {X : Cx} {pos p : Pos}
/-! ### == of texts too -/
def fEqX : PyData → PyData → Option Res
  | .str x, .str y => some (.sh (.bool (decide (x = y))))
  | d, e => fEq d e
def fNeX : PyData → PyData → Option Res
  | .str x, .str y => some (.sh (.bool (!decide (x = y))))
  | d, e => fNe d e
abbrev rEqX (K : PySem.W.Frag) : R2 := fun x y H Q => rEq x y H Q ∨ rEqD K x y H Q
abbrev rNeX (K : PySem.W.Frag) : R2 := fun x y H Q => rNe x y H Q ∨ rNeD K x y H Q
theorem op_eqX (hu : X.A.units + 64 < cLine) : OpR X (compareOp .Eq) (rEqX X.K) := op_eq.or (op_eqD hu)
theorem op_neX (hu : X.A.units + 64 < cLine) : OpR X (compareOp .NotEq) (rNeX X.K) := op_ne.or (op_neD hu)
theorem ok_eqX : Ok2 K (rEqX K) fEqX := by
  intro Z H x y d e res Q hx hy h q
  by_cases c : ∃ i j, d = .str i ∧ e = .str j
  · obtain ⟨i, j, rfl, rfl⟩ := c
    cases h
    rw [hx.str, hy.str]
    refine .inl ⟨rfl, ?_⟩
    have : decide (V.str i = V.str j) = decide (i = j) := by simp
    rw [this]
    exact q.val (.bl _)
  · have h2 : fEq d e = some res := by
      cases d <;> cases e <;> first | exact h | exact absurd ⟨_, _, rfl, rfl⟩ c
    exact .inr (ok_eq Z H x y d e res Q hx hy h2 q)
theorem ok_neX : Ok2 K (rNeX K) fNeX := by
  intro Z H x y d e res Q hx hy h q
  by_cases c : ∃ i j, d = .str i ∧ e = .str j
  · obtain ⟨i, j, rfl, rfl⟩ := c
    cases h
    rw [hx.str, hy.str]
    refine .inl ⟨rfl, ?_⟩
    have : decide (V.str i = V.str j) = decide (i = j) := by simp
    rw [this]
    exact q.val (.bl _)
  · have h2 : fNe d e = some res := by
      cases d <;> cases e <;> first | exact h | exact absurd ⟨_, _, rfl, rfl⟩ c
    exact .inr (ok_ne Z H x y d e res Q hx hy h2 q)
theorem fEqX_bool (d e : PyData) (res : Res) (h : fEqX d e = some res) : ∃ k, res = .sh (.bool k) := by
  by_cases c : ∃ i j, d = .str i ∧ e = .str j
  · obtain ⟨i, j, rfl, rfl⟩ := c
    cases h
    exact ⟨_, rfl⟩
  · have h2 : fEq d e = some res := by
      cases d <;> cases e <;> first | exact h | exact absurd ⟨_, _, rfl, rfl⟩ c
    exact fEq_bool d e res h2
theorem fNeX_bool (d e : PyData) (res : Res) (h : fNeX d e = some res) : ∃ k, res = .sh (.bool k) := by
  by_cases c : ∃ i j, d = .str i ∧ e = .str j
  · obtain ⟨i, j, rfl, rfl⟩ := c
    cases h
    exact ⟨_, rfl⟩
  · have h2 : fNe d e = some res := by
      cases d <;> cases e <;> first | exact h | exact absurd ⟨_, _, rfl, rfl⟩ c
    exact fNe_bool d e res h2
/-! ### x in l, x in t -/
def rInX (K : PySem.W.Frag) (b : Bool) : R2 := fun x y H Q => ∃ d ds e, (e = .list ds ∨ e = .tuple ds) ∧ Dp K H x d ∧ Dp K H y e ∧ shp d = true ∧ shp e = true ∧ Q (.bl (xor b (ds.any fun z => PyData.eqv z d))) H
theorem shp_items {e : PyData} {ds : List PyData} (h : e = .list ds ∨ e = .tuple ds) (s : shp e = true) : PyData.canLayAll0 ds = true := by
  have := SeqAt.canLay_of_shaped s
  rcases h with rfl | rfl <;> simpa [PyData.canLay0] using this
theorem op_inX (hu : X.A.units + 65 < cLine) : OpR X (compareOp .In) (rInX X.K false) := by
  intro pins s σ H x y v u Q I rx ry h
  obtain ⟨d, ds, e, he, hd, hy, sd, se, q⟩ := h
  obtain ⟨as, r1⟩ := Dp.reads I d x v hd rx
  obtain ⟨bs, r2⟩ := Dp.reads I e y u hy ry
  have hc := shp_items he se
  rw [Bool.false_xor] at q
  rcases he with rfl | rfl
  · exact SeqAt.in_list_reads r2 r1 hc (SeqAt.canLay_of_shaped sd) (room_in_shaped sd hu) ⟨.bl _, H, I, rfl, q⟩
  · exact SeqAt.in_tuple_reads r2 r1 hc (SeqAt.canLay_of_shaped sd) (room_in_shaped sd hu) ⟨.bl _, H, I, rfl, q⟩
theorem op_notInX (hu : X.A.units + 65 < cLine) : OpR X (compareOp .NotIn) (rInX X.K true) := by
  intro pins s σ H x y v u Q I rx ry h
  obtain ⟨d, ds, e, he, hd, hy, sd, se, q⟩ := h
  obtain ⟨as, r1⟩ := Dp.reads I d x v hd rx
  obtain ⟨bs, r2⟩ := Dp.reads I e y u hy ry
  have hc := shp_items he se
  rw [Bool.true_xor] at q
  rcases he with rfl | rfl
  · exact SeqAt.notIn_list_reads r2 r1 hc (SeqAt.canLay_of_shaped sd) (room_in_shaped sd hu) ⟨.bl _, H, I, rfl, q⟩
  · exact SeqAt.notIn_tuple_reads r2 r1 hc (SeqAt.canLay_of_shaped sd) (room_in_shaped sd hu) ⟨.bl _, H, I, rfl, q⟩
def seqD : PyData → Option (List PyData)
  | .list ds => some ds
  | .tuple ds => some ds
  | _ => none
theorem seqD_some {e : PyData} {ds : List PyData} (h : seqD e = some ds) : e = .list ds ∨ e = .tuple ds := by
  cases e <;> first | (cases h; done) | (cases h; exact .inl rfl) | (cases h; exact .inr rfl)
/-- one sign in a text -/
def oneSign (x : Str) : Option Nat := match x.cps.toList with
  | [c] => some c
  | _ => none
theorem oneSign_some {x : Str} {c : Nat} (h : oneSign x = some c) : x = ⟨#[c]⟩ := by
  obtain ⟨⟨l⟩⟩ := x
  unfold oneSign at h
  match l, h with
  | [c'], h => cases h; rfl
  | [], h => cases h
  | _ :: _ :: _, h => cases h
def signIn : PyData → PyData → Option Bool
  | .str x, .str z => (oneSign x).map fun c => decide (c ∈ z.cps.toList)
  | _, _ => none
def fInX (b : Bool) (d e : PyData) : Option Res := match signIn d e with
  | some k => some (.sh (.bool (xor b k)))
  | none => (match seqD e with
    | some ds => if (shp d && shp e) = true then some (.sh (.bool (xor b (ds.any fun z => PyData.eqv z d)))) else none
    | none => none)
abbrev rSgn (b : Bool) : R2 := fun x y H Q => ∃ (c : Nat) (z : Str), x = .str ⟨#[c]⟩ ∧ y = .str z ∧ Q (.bl (xor b (decide (c ∈ z.cps.toList)))) H
abbrev rInA (K : PySem.W.Frag) (b : Bool) : R2 := fun x y H Q => rSgn b x y H Q ∨ rInX K b x y H Q
theorem op_inA (hu : X.A.units + 65 < cLine) : OpR X (compareOp .In) (rInA X.K false) :=
  OpR.or (r := rSgn false) (fun pins s σ H x y v u Q I rx ry ⟨c, z, e1, e2, q⟩ => op_in_sign pins s σ H x y v u Q I rx ry ⟨c, z, e1, e2, by rw [Bool.false_xor] at q; exact q⟩) (op_inX hu)
theorem op_notInA (hu : X.A.units + 65 < cLine) : OpR X (compareOp .NotIn) (rInA X.K true) :=
  OpR.or (r := rSgn true) (fun pins s σ H x y v u Q I rx ry ⟨c, z, e1, e2, q⟩ => op_notIn_sign pins s σ H x y v u Q I rx ry ⟨c, z, e1, e2, by rw [Bool.true_xor] at q; exact q⟩) (op_notInX hu)
theorem signIn_some {d e : PyData} {k : Bool} (h : signIn d e = some k) : ∃ c z, d = .str ⟨#[c]⟩ ∧ e = .str z ∧ k = decide (c ∈ z.cps.toList) := by
  unfold signIn at h
  split at h
  · rename_i x z
    obtain ⟨c, e1, e2⟩ := Option.map_eq_some_iff.mp h
    rw [oneSign_some e1]
    exact ⟨c, z, rfl, rfl, e2.symm⟩
  · cases h
theorem ok_in {b : Bool} : Ok2 K (rInA K b) (fInX b) := by
  intro Z H x y d e res Q hx hy h q
  unfold fInX at h
  split at h
  · rename_i k hk
    cases h
    obtain ⟨c, z, rfl, rfl, rfl⟩ := signIn_some hk
    exact .inl ⟨c, z, hx.str, hy.str, q.val (.bl _)⟩
  · split at h
    · rename_i ds he
      split at h
      · rename_i hs
        cases h
        obtain ⟨s1, s2⟩ := Bool.and_eq_true_iff.mp hs
        exact .inr ⟨d, ds, e, seqD_some he, hx.dp s1, hy.dp s2, s1, s2, q.val (.bl _)⟩
      · cases h
    · cases h
theorem fInX_bool {b : Bool} (d e : PyData) (res : Res) (h : fInX b d e = some res) : ∃ k, res = .sh (.bool k) := by
  unfold fInX at h
  split at h
  · cases h
    exact ⟨_, rfl⟩
  · split at h
    · split at h
      · cases h
        exact ⟨_, rfl⟩
      · cases h
    · cases h
/-! ### repr -/
def pRepr : List PyData → Option Res
  | [d] => if (shp d && (d.showable && decide (d.shown.length ≤ lineN))) = true then some (.sh (.str d.shown)) else none
  | _ => none
def rRepr (K : PySem.W.Frag) : List V → Hp → VK → Prop := fun xs H Q => ∃ x d, xs = [x] ∧ Dp K H x d ∧ shp d = true ∧ d.showable = true ∧ d.shown.length ≤ sizeLine ∧ Q (.str d.shown) H
theorem cr_repr (hg : X.A.guards = some []) (hu : X.A.units + 65 < cLine) : CallR X (.builtin "repr") (rRepr X.K) := by
  intro pins s σ H xs us Q I r h
  obtain ⟨x, d, rfl, hd, hs, hw, hl, q⟩ := h
  obtain ⟨u, rfl, ru⟩ : ∃ u, us = [u] ∧ RelV x u := by
    cases r with
    | cons a b => cases b; exact ⟨_, rfl, a⟩
  have fin : ∀ t tk, EP X pins σ Q (.str d.shown t) { s with toks := tk } := fun t tk => ⟨.str d.shown, H, I.tok tk, ⟨t, rfl⟩, q⟩
  obtain ⟨as, rd⟩ := Dp.reads I d x u hd ru
  have dp := SeqAt.depth_of_shaped hs
  cases d with
  | none =>
    cases rd
    rw [PyData.shown_none] at fin
    exact PySem.P.repr_of_none (fin _ _)
  | bool b =>
    cases rd
    rw [PyData.shown_bool] at fin
    exact PySem.P.repr_of_bool (fin _ _)
  | int i =>
    cases rd
    rw [PyData.shown_int] at fin
    refine PySem.P.repr_of_int ?_ (fin _ _)
    simpa [PyData.showable] using hw
  | str z =>
    cases rd
    rw [PyData.shown_str] at fin hl
    exact PySem.P.repr_of_str (fin _ _) hl
  | list ds =>
    have rd2 := rd
    cases rd
    exact repr_of_reads' rd2 hw (PyData.noDict_hsm (PyData.hasDict_of_canLay _ (SeqAt.canLay_of_shaped hs))) hg (by omega) (fun b o e => e) (fun h' u tk hk => ⟨.str _, H, I.kept hk, ⟨u, rfl⟩, q⟩) hl
  | tuple ds =>
    have rd2 := rd
    cases rd
    exact repr_of_reads' rd2 hw (PyData.noDict_hsm (PyData.hasDict_of_canLay _ (SeqAt.canLay_of_shaped hs))) hg (by omega) (fun b o e => e) (fun h' u tk hk => ⟨.str _, H, I.kept hk, ⟨u, rfl⟩, q⟩) hl
  | dict ds =>
    have := SeqAt.canLay_of_shaped hs
    simp [PyData.canLay0] at this
theorem ok_repr : PmOk K (rRepr K) pRepr := by
  intro Z H vs ds res Q hv h q
  unfold pRepr at h
  split at h
  · split at h
    · rename_i d c
      cases h
      simp only [Bool.and_eq_true, decide_eq_true_eq] at c
      obtain ⟨x, rfl, hx⟩ := hv.one
      exact ⟨x, d, rfl, hx.dp c.1, c.1, c.2.1, by rw [line_eq]; exact c.2.2, q.val (.str _)⟩
    · cases h
  · cases h
end
end
end Ev
set_option Elab.async false
set_option linter.all false
set_option autoImplicit false
set_option maxRecDepth 100000
/-! Ev20: min, max, sorted, index over data; comparisons in a chain. -/
namespace Ev
open PySem PySem.Spec L2
open PyProof.Rows hiding St
noncomputable section
open PySem.W (alike AlikeAll minD maxD readsAll_at reads_keeps min_list_data min_tuple_data max_list_data max_tuple_data)
section
variable {K : PySem.W.Frag} {W : WX} {al : Addr → Prop} {own own' : Own} {ρ ρ' : Env} {σ : St} {H H' : Hp} {X : Cx} {pos p : Pos}
/-! ### min, max -/
def alikeB (xs : List PyData) : Bool := xs.all fun x => (!isNoneD x) && xs.all (alike x)
theorem alikeB_ok {xs : List PyData} (h : alikeB xs = true) : AlikeAll xs := by
  simp only [alikeB, List.all_eq_true, Bool.and_eq_true] at h
  exact ⟨fun x hx y hy => (h x hx).2 y hy, fun x hx e => by
    have := (h x hx).1
    subst e
    cases this⟩
/-- one of the items -/
def rBest (K : PySem.W.Frag) (g : PyData → List PyData → PyData) : List V → Hp → VK → Prop := fun xs H Q => ∃ (a : Addr) (vs : List V) (x : PyData) (ds : List PyData), xs = [.ref a] ∧ (SqL K H a vs ∨ SqT K H a vs) ∧ DpAll K H vs (x :: ds) ∧
  AlikeAll (x :: ds) ∧ PyData.depthAll (x :: ds) ≤ 64 ∧ ∀ (i : Nat) v, vs[i]? = some v → (x :: ds)[i]? = some (g x ds) → Q v H
theorem best_back {pins : List (Addr × Obj)} {s : Shared} {Q : VK} {vs : List V} {its : List Value} {ds : List PyData} {as bs : List Addr} {d : PyData} {i : Nat} {u : Value} {h' : Heap} {tk : Nat} (I : Inv X pins σ H s) (rv : Vals vs its) (hr : ReadsAll s.heap its ds as)
    (hi : its[i]? = some u) (r : Reads h' u d bs) (hk : ∀ b o, s.heap.get? b = some o → h'.get? b = some o) (q : ∀ (i : Nat) v, vs[i]? = some v → ds[i]? = some d → Q v H) : EP X pins σ Q u { s with heap := h', toks := tk } := by
  obtain ⟨cs, r2, hl, _, _⟩ := readsAll_at hr i u hi
  have e : d = ds.getD i .none := (Reads.unique r _ _ (reads_keeps hk r2)).1
  have hlt : i < vs.length := by
    have := (List.getElem?_eq_some_iff.mp hi).1
    rw [rv.length]
    exact this
  have hv : vs[i]? = some vs[i] := List.getElem?_eq_getElem hlt
  obtain ⟨u', h1, h2⟩ := rv.get hv
  rw [hi] at h1
  cases h1
  refine ⟨_, H, I.kept hk, h2, q i _ hv ?_⟩
  rw [e, List.getElem?_eq_getElem hl]
  simp [hl]
theorem cr_minD (hc : X.calm = true) (hu : X.A.units + 65 < cLine) : CallR X (.builtin "min") (rBest X.K minD) := by
  intro pins s σ H xs us Q I r h
  obtain ⟨a, vs, x, ds, rfl, hq, hd, ha, hdp, q⟩ := h
  rw [Vals.ref1 r]
  rcases hq with hq | hq
  · obtain ⟨its, rv, pl, hz⟩ := I.list hq
    obtain ⟨as, hr⟩ := Dp.readsAll I _ _ its hd rv
    exact min_list_data (I.ok.hd hc) pl.isList (show ReadsAll s.heap its.toArray.toList _ as from hr) ha (by omega) fun i v h' tk bs hi r2 hk => best_back I rv hr (by simpa using hi) r2 hk q
  · obtain ⟨its, rv, pl, hz⟩ := I.tuple hq
    obtain ⟨as, hr⟩ := Dp.readsAll I _ _ its hd rv
    exact min_tuple_data (I.ok.hd hc) pl (show ReadsAll s.heap its.toArray.toList _ as from hr) ha (by omega) fun i v h' tk bs hi r2 hk => best_back I rv hr (by simpa using hi) r2 hk q
theorem cr_maxD (hc : X.calm = true) (hu : X.A.units + 65 < cLine) : CallR X (.builtin "max") (rBest X.K maxD) := by
  intro pins s σ H xs us Q I r h
  obtain ⟨a, vs, x, ds, rfl, hq, hd, ha, hdp, q⟩ := h
  rw [Vals.ref1 r]
  rcases hq with hq | hq
  · obtain ⟨its, rv, pl, hz⟩ := I.list hq
    obtain ⟨as, hr⟩ := Dp.readsAll I _ _ its hd rv
    exact max_list_data (I.ok.hd hc) pl.isList (show ReadsAll s.heap its.toArray.toList _ as from hr) ha (by omega) fun i v h' tk bs hi r2 hk => best_back I rv hr (by simpa using hi) r2 hk q
  · obtain ⟨its, rv, pl, hz⟩ := I.tuple hq
    obtain ⟨as, hr⟩ := Dp.readsAll I _ _ its hd rv
    exact max_tuple_data (I.ok.hd hc) pl (show ReadsAll s.heap its.toArray.toList _ as from hr) ha (by omega) fun i v h' tk bs hi r2 hk => best_back I rv hr (by simpa using hi) r2 hk q
def pBest (g : PyData → List PyData → PyData) : List PyData → Option Res
  | [e] => (match seqD e with
    | some (x :: ds) => if (shp e && alikeB (x :: ds)) = true then some (.sh (g x ds)) else none
    | _ => none)
  | _ => none
theorem shp_depth {e : PyData} {ds : List PyData} (h : e = .list ds ∨ e = .tuple ds) (s : shp e = true) : PyData.depthAll ds ≤ 64 := by
  have := SeqAt.depth_of_shaped s
  rcases h with rfl | rfl <;> (simp only [PyData.depth] at this; omega)
/-- the items of a list, a tuple that is shown -/
theorem Vw.seq {Z : Addr → Prop} {v : V} {e : PyData} {ds : List PyData} (h : Vw K H Z v e) (he : e = .list ds ∨ e = .tuple ds) : ∃ a vs as, v = .ref a ∧ (SqL K H a vs ∨ SqT K H a vs) ∧ RpA K H vs ds as ∧ ∀ b ∈ as, Z b := by
  rcases he with rfl | rfl
  · obtain ⟨a, vs, as, h1, h2, h3⟩ := h.list
    exact ⟨a, vs, as, h1, .inl h2, h3⟩
  · obtain ⟨a, vs, as, h1, h2, h3⟩ := h.tuple
    exact ⟨a, vs, as, h1, .inr h2, h3⟩
theorem ok_best {g : PyData → List PyData → PyData} : PmOk K (rBest K g) (pBest g) := by
  intro Z H vs ds res Q hv h q
  unfold pBest at h
  split at h
  · rename_i e
    split at h
    · rename_i x xs he
      split at h
      · rename_i c
        cases h
        obtain ⟨c1, c2⟩ := Bool.and_eq_true_iff.mp c
        obtain ⟨y, rfl, hy⟩ := hv.one
        have he := seqD_some he
        obtain ⟨a, ws, as, rfl, hs, r, z⟩ := hy.seq he
        refine ⟨a, ws, x, xs, rfl, hs, RpA.dp _ _ _ r (shp_items he c1), alikeB_ok c2, shp_depth he c1, fun i v hi hg => ?_⟩
        obtain ⟨v', bs, e1, e2, e3⟩ := r.get hg
        rw [hi] at e1
        cases e1
        exact q.part e2 fun b hb => z b (e3 b hb)
      · cases h
    · cases h
  · cases h
/-! ### sorted -/
def sortableB (ds : List PyData) : Bool := (ds.all fun d => match d with
    | .tuple (_ :: _) => true
    | _ => false) || ds.all fun d => match d with
    | .none => false
    | .tuple _ => false
    | _ => true
theorem sortableB_ok {ds : List PyData} (h : sortableB ds = true) : PySem.W.Sortable ds := by
  rcases Bool.or_eq_true_iff.mp h with h | h
  · refine .inl fun d hd => ?_
    have := List.all_eq_true.mp h d hd
    split at this
    · exact ⟨_, _, rfl⟩
    · cases this
  · refine .inr fun d hd => ?_
    have := List.all_eq_true.mp h d hd
    refine ⟨fun e => ?_, fun xs e => ?_⟩
    · subst e
      cases this
    · subst e
      cases this
def dsort (ds : List PyData) : List PyData := ds.mergeSort (PySem.W.dataLe false id)
def rSortX (K : PySem.W.Frag) : List V → Hp → VK → Prop := fun xs H Q => ∃ (a : Addr) (vs : List V) (ds : List PyData), xs = [.ref a] ∧ SqL K H a vs ∧ DpAll K H vs ds ∧ alikeB ds = true ∧ sortableB ds = true ∧ PyData.depthAll ds ≤ 64 ∧
  ∀ (ws : List V) (p : Addr), H p = none → ws.length = ds.length → ws = ((vs.zip ds).mergeSort (PySem.W.dataLe false Prod.snd)).map Prod.fst → Q (.ref p) (upd H p (.lst ws))
theorem each_zip {h : Heap} {R : V → Value → Prop} : ∀ {vs : List V} {us : List Value} {ds : List PyData} {as : List Addr}, Paired R vs us → ReadsAll h us ds as → PySem.W.EachIs (fun u (p : V × PyData) => R p.1 u) us (vs.zip ds) ∧ PySem.W.EachIs (fun u (p : V × PyData) => ∃ bs, Reads h u p.2 bs) us (vs.zip ds)
  | _, _, _, _, .nil, .nil => ⟨.nil, .nil⟩
  | _, _, _, _, .cons r t, .cons r' t' => ⟨.cons r (each_zip t t').1, .cons ⟨_, r'⟩ (each_zip t t').2⟩
theorem each_vals {out : List Value} {ps : List (V × PyData)} (h : PySem.W.EachIs (fun u (p : V × PyData) => RelV p.1 u) out ps) : Vals (ps.map Prod.fst) out := by
  induction h with
  | nil => exact .nil
  | cons a b ih => exact .cons a ih
theorem zip_snd : ∀ {α β : Type} (xs : List α) (ys : List β), xs.length = ys.length → (xs.zip ys).map Prod.snd = ys
  | _, _, [], [], _ => rfl
  | _, _, _ :: xs, _ :: ys, h => by simp [zip_snd xs ys (by simpa using h)]
theorem depth_mem {d : PyData} : ∀ {ds : List PyData}, d ∈ ds → d.depth ≤ PyData.depthAll ds
  | x :: ds, h => by
    simp only [PyData.depthAll]
    rcases List.mem_cons.mp h with rfl | h
    · exact Nat.le_max_left _ _
    · exact Nat.le_trans (depth_mem h) (Nat.le_max_right _ _)
theorem dpAll_length : ∀ {vs : List V} {ds : List PyData}, DpAll K H vs ds → vs.length = ds.length
  | _, _, .nil => rfl
  | _, _, .cons _ t => congrArg (· + 1) (dpAll_length t)
theorem cr_sortX (hu : X.A.units + 67 < cLine) : CallR X (.builtin "sorted") (rSortX X.K) := by
  intro pins s σ H xs us Q I r h
  obtain ⟨a, vs, ds, rfl, hq, hd, hal, hk, hdp, q⟩ := h
  rw [Vals.ref1 r]
  obtain ⟨its, rv, pl, hz⟩ := I.list hq
  obtain ⟨as, hr⟩ := Dp.readsAll I _ _ its hd rv
  obtain ⟨e1, e2⟩ := each_zip rv hr
  have hlen := dpAll_length hd
  have em := zip_snd vs ds hlen
  have al2 := alikeB_ok hal
  refine PySem.W.sorted_data (enc := Prod.snd) pl.isList e1 e2 (by rw [em]; exact fun d hd d' hd' => al2.1 d hd d' hd') (by rw [em]; exact sortableB_ok hk) ?_ (fun b hb => ?_) fun out hlo eo => ?_
  · rw [List.length_zip, ← hlen, Nat.min_self]
    exact hz
  · have hb2 : b.2 ∈ ds := by
      rw [← em]
      exact List.mem_map.mpr ⟨b, hb, rfl⟩
    have := depth_mem hb2
    omega
  · have rv2 := each_vals eo
    obtain ⟨ep, he'⟩ := PyProof.Rows.sortedAll_at s.heap its out.toArray
    have hl2 : (((vs.zip ds).mergeSort (PySem.W.dataLe false Prod.snd)).map Prod.fst).length = ds.length := by
      rw [List.length_map, List.length_mergeSort, List.length_zip, ← hlen, Nat.min_self]
    refine ⟨.ref _, upd H (s.heap.objs.size + 1) (.lst _), I.laid (t' := s.toks) (fun _ _ => PyProof.Rows.sortedAll_old) (Nat.le_succ _) ⟨?_, out, ep, rv2, he'⟩, rfl, q _ _ (I.hok.fresh (Nat.le_succ _)) hl2 rfl⟩
    rw [hl2, ← hlen]
    exact hz
def pSorted : List PyData → Option Res
  | [.list ds] => if (shp (.list ds) && (alikeB ds && sortableB ds)) = true then some (.ow (.list (dsort ds))) else none
  | _ => none
theorem sort_zip (vs : List V) (ds : List PyData) (hl : vs.length = ds.length) : ((vs.zip ds).mergeSort (PySem.W.dataLe false Prod.snd)).map Prod.snd = dsort ds := by
  have e : PySem.W.dataLe false (Prod.snd : V × PyData → PyData) = fun a b => PySem.W.dataLe false id a.2 b.2 := rfl
  have q := List.map_mergeSort (f := (Prod.snd : V × PyData → PyData)) (r := PySem.W.dataLe false Prod.snd) (s := PySem.W.dataLe false id) (l := vs.zip ds) fun a _ b _ => rfl
  rw [q, zip_snd vs ds hl]
  rfl
theorem zip_at {α β : Type} : ∀ {xs : List α} {ys : List β} {p : α × β}, p ∈ xs.zip ys → ∃ i : Nat, xs[i]? = some p.1 ∧ ys[i]? = some p.2
  | [], _, _, h => by simp at h
  | _ :: _, [], _, h => by simp at h
  | x :: xs, y :: ys, p, h => by
    rcases List.mem_cons.mp (by simpa using h) with rfl | h
    · exact ⟨0, rfl, rfl⟩
    · obtain ⟨i, h1, h2⟩ := zip_at h
      exact ⟨i + 1, by simpa using h1, by simpa using h2⟩
theorem ok_sorted : PmOk K (rSortX K) pSorted := by
  intro Z H vs ds res Q hv h q
  unfold pSorted at h
  split at h
  · rename_i xs
    split at h
    · rename_i c
      cases h
      simp only [Bool.and_eq_true] at c
      obtain ⟨c1, c2, c3⟩ := c
      obtain ⟨y, rfl, hy⟩ := hv.one
      obtain ⟨a, ws, as, rfl, hs, r, z⟩ := hy.list
      refine ⟨a, ws, xs, rfl, hs, RpA.dp _ _ _ r (shp_items (.inl rfl) c1), c2, c3, shp_depth (.inl rfl) c1, fun vs' p hp hlen e => ?_⟩
      have hwl := r.length
      obtain ⟨bs, r2, z2⟩ := r.sub (vs' := vs') (ds' := dsort xs) z (by rw [hlen, dsort, List.length_mergeSort]) fun i v d h1 h2 => by
        rw [e, List.getElem?_map] at h1
        rw [← sort_zip ws xs hwl, List.getElem?_map] at h2
        cases ep : ((ws.zip xs).mergeSort (PySem.W.dataLe false Prod.snd))[i]? with
        | none => rw [ep] at h1; cases h1
        | some pr =>
          rw [ep] at h1 h2
          cases h1
          cases h2
          exact zip_at (List.mem_mergeSort.mp (List.mem_of_getElem? ep))
      exact q.lst r2 z2 hp
    · cases h
  · cases h
/-! ### a continuation over a number -/
def evIntK (f : Ev) (k : Int → Ev) : Ev := fun ρ => match f ρ with
  | .ok (.sh (.int i)) ρ' => k i ρ'
  | .ok _ _ => .stuck
  | .exc c ρ' => .exc c ρ'
  | .stuck => .stuck
theorem semIntK {f : Ev} {k : Int → Ev} {Q : VK} (h : SemE K W (evIntK f k) σ H Q) : SemE K W f σ H fun v H1 => ∃ i, v = .int i ∧ SemE K W (k i) σ H1 Q := by
  obtain ⟨al, own, ρ, p, h⟩ := h
  refine ⟨al, own, ρ, p, ?_⟩
  simp only [evIntK] at h
  cases e : f ρ with
  | stuck => simp only [e] at h
  | exc c ρ' => simp only [e] at h ⊢; exact h
  | ok r ρ' =>
    simp only [e] at h ⊢
    cases r with
    | ow d => exact h.elim
    | sh d =>
      cases d <;> first | exact h.elim | skip
      intro v H' own' as p' s' r' z'
      cases r'
      exact ⟨_, rfl, semE_after p' s' h⟩
/-- a < b < c and its like, over numbers -/
def evCh (g g' : Int → Int → Bool) (fa fb fc : Ev) : Ev := evIntK fa fun i => evIntK fb fun j => if g i j = true then evIntK fc fun k => evC (.bool (g' j k)) else evC (.bool false)
theorem semCh {g g' : Int → Int → Bool} {fa fb fc : Ev} {Q : VK} (h : SemE K W (evCh g g' fa fb fc) σ H Q) : tChain (rI0 fun i j => .bl (g i j)) (rI0 fun i j => .bl (g' i j)) (SemE K W fa) (SemE K W fb) (SemE K W fc) σ H Q := by
  refine SemE.mono (semIntK h) fun x H1 ⟨i, e, h⟩ => SemE.mono (semIntK h) fun y H2 ⟨j, e', h⟩ => ?_
  subst e e'
  refine ⟨i, j, rfl, rfl, g i j, rfl, ?_⟩
  by_cases c : g i j = true
  · rw [if_pos c] at h ⊢
    exact SemE.mono (semIntK h) fun z H3 ⟨k, e, h⟩ => by
      subst e
      exact ⟨j, k, rfl, rfl, semC (fun _ => .bl _) h⟩
  · rw [if_neg c] at h ⊢
    exact semC (fun _ => .bl _) h
theorem pe_chI {op op' : CmpOp} {a b c : Expr} {fa fb fc : Ev} {g g' : Int → Int → Bool} (ho : OpR X (compareOp op) (rI0 fun i j => .bl (g i j))) (ho' : OpR X (compareOp op') (rI0 fun i j => .bl (g' i j))) (ha : PE X a (SemE X.K W fa)) (hb : PE X b (SemE X.K W fb)) (hc : PE X c (SemE X.K W fc))
    (hm : lastMarks [op, op'] [b, c] = false := by with_unfolding_all rfl) : PE X (.Compare a [op, op'] [b, c] pos) (SemE X.K W (evCh g g' fa fb fc)) := PE.imp (pe_chain ho ho' ha hb hc hm) fun _ _ _ h => semCh h
theorem evIntK_ok {f : Ev} {k : Int → Ev} {r : Res} (h : evIntK f k ρ = .ok r ρ') : ∃ i ρ1, k i ρ1 = .ok r ρ' := by
  unfold evIntK at h
  split at h
  · exact ⟨_, _, h⟩
  · cases h
  · cases h
  · cases h
theorem evCh_bool {g g' : Int → Int → Bool} {fa fb fc : Ev} {r : Res} (h : evCh g g' fa fb fc ρ = .ok r ρ') : ∃ k, r = .sh (.bool k) := by
  obtain ⟨i, ρ1, h⟩ := evIntK_ok h
  obtain ⟨j, ρ2, h⟩ := evIntK_ok h
  by_cases c : g i j = true
  · rw [if_pos c] at h
    obtain ⟨k, ρ3, h⟩ := evIntK_ok h
    cases h
    exact ⟨_, rfl⟩
  · rw [if_neg c] at h
    cases h
    exact ⟨_, rfl⟩
theorem pt_chI {op op' : CmpOp} {a b c : Expr} {fa fb fc : Ev} {g g' : Int → Int → Bool} (ho : OpR X (compareOp op) (rI0 fun i j => .bl (g i j))) (ho' : OpR X (compareOp op') (rI0 fun i j => .bl (g' i j))) (ha : PE X a (SemE X.K W fa)) (hb : PE X b (SemE X.K W fb)) (hc : PE X c (SemE X.K W fc))
    (hm : lastMarks [op, op'] [b, c] = false := by with_unfolding_all rfl) : PT X (.Compare a [op, op'] [b, c] pos) (SemT X.K W (tvOf (evCh g g' fa fb fc))) := PT.imp (pt_chain ho ho' ha hb hc hm) fun σ H Q h => by
  refine semCh ?_
  obtain ⟨al, own, ρ, p, h⟩ := h
  refine ⟨al, own, ρ, p, ?_⟩
  simp only [tvOf] at h
  cases e : evCh g g' fa fb fc ρ with
  | stuck => simp only [e] at h
  | exc c ρ' => simp only [e] at h ⊢; exact h
  | ok r ρ' =>
    simp only [e] at h ⊢
    obtain ⟨k, rfl⟩ := evCh_bool e
    simp only [Res.d, truthD] at h
    intro v H' own' as p' s' r' z'
    cases r'
    exact ⟨k, rfl, h H' own' p' s'⟩
end
end
end Ev
set_option Elab.async false
set_option linter.all false
set_option autoImplicit false
set_option maxRecDepth 100000
/-! Ev21: methods of plain data; list(range(..)); -x; the module's constants; defs that call themselves. -/
namespace Ev
open PySem PySem.Spec L2
open PyProof.Rows hiding St
noncomputable section
section
variable {K : PySem.W.Frag} {W : WX} {al : Addr → Prop} {own own' : Own} {ρ ρ' : Env} {σ : St} {H H' : Hp} {X : Cx} {pos p : Pos}
/-! ### o.m(..), o a plain thing of a known kind -/
def evMeth (isT : PyData → Bool) (f : List PyData → Option Res) (o : Opd) (os : List Opd) : Ev := fun ρ => match evO o ρ with
  | .ok a ρ1 => (match look ρ1 a with
    | some d => if isT d = true then evPm f (o :: os) ρ else .stuck
    | none => .stuck)
  | .exc c ρ' => .exc c ρ'
  | .stuck => .stuck
def mtl (r : V → List V → Hp → VK → Prop) : List V → Hp → VK → Prop := fun vs H Q => match vs with
  | x :: xs => r x xs H Q
  | [] => False
theorem Vw.of_slot {i : Nat} {s : Sl} {v : V} (h : SlOk K H al own i s v) (hn : ∀ a c, s ≠ .ex a c) : Vw K H (Zf al own) v s.d := by
  cases s with
  | sh d => exact .inl h
  | ow d => obtain ⟨a, _, o, _⟩ := h; exact .inr ⟨a, o⟩
  | io d => obtain ⟨a, _, o⟩ := h; exact .inr ⟨a, o⟩
  | lk d => obtain ⟨a, _, o⟩ := h; exact .inr ⟨a, o⟩
  | ex a c => exact (hn a c rfl).elim
theorem semMeth {T : String} {isT : PyData → Bool} (hT : ∀ (Z : Addr → Prop) H x d, Vw K H Z x d → isT d = true → tyV K T x H) {r : V → List V → Hp → VK → Prop} {f : List PyData → Option Res} (ok : PmOk K (mtl r) f) {o : Opd} {os : List Opd} {Q : VK} (h : SemE K W (evMeth isT f o os) σ H Q) :
    tBM K T r (SemO K W o) (SemOs K W os) σ H Q := by
  obtain ⟨al, own, ρ, p, h⟩ := h
  simp only [evMeth] at h
  -- behind the operands
  have fin : ∀ {a : Arg} {as : List Arg} {ρ' : Env} {res : Res} {own' : Own} {H' : Hp} {v : V} {vs : List V} {ds : List PyData}, looks ρ' (a :: as) = some ds → f ds = some res → OkE K al own ρ σ H Q res ρ' → Pre K al own' ρ' σ H' → Stp own ρ H own' ρ' H' →
      ArgsOk K H' al own' σ (a :: as) (v :: vs) → r v vs H' Q := fun {a as ρ' res own' H' v vs ds} l e q p' s' ao => ok (Zf al own') H' (v :: vs) ds res Q (ao.looks p' l) e (PmQ.of p' (OkE.after s' q))
  cases o with
  | pl i =>
    simp only [evO] at h
    cases e : ρ[i]? with
    | none => simp only [e] at h
    | some s =>
      cases s with
      | none => simp only [e] at h
      | some s =>
        simp only [e] at h
        obtain ⟨v, hv, ok0⟩ := p.sl i s e
        cases l : look ρ (.pl i) with
        | none => simp only [l] at h
        | some d =>
          simp only [l] at h
          by_cases hi : isT d = true
          · rw [if_pos hi] at h
            have hd : s.d = d ∧ ∀ a c, s ≠ .ex a c := by
              simp only [look, e] at l
              cases s <;> first | (cases l; exact ⟨rfl, fun _ _ z => nomatch z⟩) | cases l
            obtain ⟨rfl, hn⟩ := hd
            refine ⟨v, hv, hT _ H v s.d (Vw.of_slot ok0 hn) hi, al, own, ρ, p, ?_⟩
            simp only [evPm, evOs, evO, e] at h
            cases q : evOs os ρ with
            | stuck => simp only [q] at h
            | exc c ρ2 => simp only [q] at h ⊢; exact h
            | ok as ρ2 =>
              simp only [q] at h ⊢
              intro vs H' own' p' s' a
              cases l2 : looks ρ2 (.pl i :: as) with
              | none => simp only [l2] at h
              | some ds =>
                simp only [l2] at h
                cases l3 : f ds with
                | none => simp only [l3] at h
                | some res =>
                  simp only [l3] at h
                  exact fin l2 l3 h p' s' ⟨hv, a⟩
          · rw [if_neg hi] at h
            exact h.elim
  | ex f0 =>
    simp only [evO] at h
    refine ⟨al, own, ρ, p, ?_⟩
    cases e : f0 ρ with
    | stuck => simp only [e] at h
    | exc c ρ1 => simp only [e] at h ⊢; exact h
    | ok r0 ρ1 =>
      simp only [e, look] at h ⊢
      by_cases hi : isT r0.d = true
      · rw [if_pos hi] at h
        refine OkE.share fun v H1 own1 as0 p1 s1 r1 z1 => ?_
        have hw : Vw K H1 (Zf al own1) v r0.d := .inl ⟨as0, r1, z1⟩
        refine ⟨hT _ H1 v r0.d hw hi, al, own1, ρ1, p1, ?_⟩
        simp only [evPm, evOs, evO, e] at h
        cases q : evOs os ρ1 with
        | stuck => simp only [q] at h
        | exc c ρ2 => simp only [q] at h ⊢; exact h.after s1
        | ok as ρ2 =>
          simp only [q] at h ⊢
          intro vs H' own' p' s' a
          cases l2 : looks ρ2 (.sh r0.d :: as) with
          | none => simp only [l2] at h
          | some ds =>
            simp only [l2] at h
            cases l3 : f ds with
            | none => simp only [l3] at h
            | some res =>
              simp only [l3] at h
              exact fin l2 l3 h p' (s1.trans s') ⟨ArgOk.step (a := .sh r0.d) s' p1 ⟨_, r1, z1⟩, a⟩
      · rw [if_neg hi] at h
        exact h.elim
/-! xs.index(x) of a list -/
def isLst : PyData → Bool
  | .list _ => true
  | _ => false
def isStrD : PyData → Bool
  | .str _ => true
  | _ => false
theorem ty_list (Z : Addr → Prop) (H : Hp) (x : V) (d : PyData) (h : Vw K H Z x d) (hi : isLst d = true) : tyV K "list" x H := by
  cases d <;> first | (cases hi; done) | skip
  obtain ⟨a, vs, as, rfl, h2, _⟩ := h.list
  exact .inl ⟨rfl, vs, h2⟩
theorem ty_str (Z : Addr → Prop) (H : Hp) (x : V) (d : PyData) (h : Vw K H Z x d) (hi : isStrD d = true) : tyV K "str" x H := by
  cases d <;> first | (cases hi; done) | skip
  rw [h.str]
  rfl
def pIndex : List PyData → Option Res
  | [.list ds, d] => if (shp (.list ds) && shp d) = true then (ds.findIdx? fun z => PyData.eqv z d).map fun j => .sh (.int (j : Nat)) else none
  | _ => none
theorem ok_index : PmOk K (mtl (rIndexD K)) pIndex := by
  intro Z H vs ds res Q hv h q
  unfold pIndex at h
  split at h
  · rename_i xs d
    split at h
    · rename_i c
      obtain ⟨c1, c2⟩ := Bool.and_eq_true_iff.mp c
      obtain ⟨j, hj, rfl⟩ := Option.map_eq_some_iff.mp h
      obtain ⟨x, y, rfl, hx, hy⟩ := hv.two
      obtain ⟨a, ws, as, rfl, _⟩ := hx.list
      obtain ⟨hlt, hz, hno⟩ := List.findIdx?_eq_some_iff_getElem.mp hj
      refine ⟨a, y, d, xs, j, xs[j], rfl, rfl, hx.dp c1, hy.dp c2, c1, c2, List.getElem?_eq_getElem hlt, hz, fun m z hm e => ?_, q.val (.int _)⟩
      obtain ⟨hm2, rfl⟩ := List.getElem?_eq_some_iff.mp e
      simpa using hno m hm
    · cases h
  · cases h
theorem pe_index {o e : Expr} {oo oe : Opd} {apos : Pos} (hu : X.A.units + 65 < cLine) (ho : PE X o (SemO X.K W oo)) (he : PA X [e] (SemOs X.K W [oe])) (hbase : attributeBase o "index" X.env (eval o X.env) = eval o X.env := by rfl)
    (hfew : ((backTo pos (starEach [e] X.env)).all (fun x => !x.1) && (backToKw pos (keywordEach [] X.env)).all (fun x => x.1.isSome)
      && decide ([e].length + ([] : List Keyword).length + (if ([] : List Keyword).isEmpty then 0 else 1) < 30)) = true := by rfl)
    (hline : (apos.endLine == pos.line) = true := by rfl) (hs : starEach [e] X.env = (false, eval e X.env) :: starEach [] X.env := by rfl) : PE X (.Call (.Attribute o "index" apos) [e] [] pos) (SemE X.K W (evMeth isLst pIndex oo [oe])) :=
  PE.imp (pe_bm PySem.F.plainAttrs_list PySem.F.slot_list_index PySem.F.type_list_index (mt_indexD hu) ho he hbase hfew hline hs) fun _ _ _ h => semMeth ty_list ok_index h
/-! ### -x -/
def fNeg : PyData → Option Res
  | .int i => some (.sh (.int (-i)))
  | _ => none
def r1l (r : V → Hp → VK → Prop) : List V → Hp → VK → Prop := fun vs H Q => match vs with
  | [x] => r x H Q
  | _ => False
theorem ok_neg : PmOk K (r1l (rU fun i => .int (-i))) (pm1 fNeg) := by
  intro Z H vs ds res Q hv h q
  unfold pm1 at h
  split at h
  · rename_i d
    obtain ⟨x, rfl, hx⟩ := hv.one
    cases d <;> first | (cases h; done) | skip
    cases h
    exact ⟨_, hx.int, q.val (.int _)⟩
  · cases h
theorem pe_neg {a : Expr} {o : Opd} (ha : PE X a (SemO X.K W o)) : PE X (.UnaryOp .USub a pos) (SemE X.K W (evPm (pm1 fNeg) [o])) := PE.imp (pe_un un_neg ha) fun _ _ _ h => sem1 (semPm ok_neg h)
/-! ### list(range(n)), list(range(m, n)) -/
def rngOk (a b : Int) : Bool := cdec (-(2 ^ 62) ≤ a ∧ a < 2 ^ 62 ∧ -(2 ^ 62) ≤ b ∧ b < 2 ^ 62 ∧ (b - a).toNat ≤ 2 ^ 24)
theorem rngOk_ok {a b : Int} (h : rngOk a b = true) : RgOk a b := of_cdec h
def pLRg1 : List PyData → Option Res
  | [.int n] => if rngOk 0 n = true then some (.ow (.list (rgI 0 n.toNat))) else none
  | _ => none
def pLRg2 : List PyData → Option Res
  | [.int m, .int n] => if rngOk m n = true then some (.ow (.list (rgI m (n - m).toNat))) else none
  | _ => none
theorem rpA_rg {a : Int} : ∀ l : List Nat, RpA K H (l.map fun i : Nat => V.int (a + (i : Int))) (l.map fun i : Nat => PyData.int (a + (i : Int))) []
  | [] => .nil
  | i :: l => .cons (.int _) (rpA_rg l)
theorem rpA_rgV (a b : Int) : RpA K H (rgV a b) (rgI a (b - a).toNat) [] := rpA_rg _
def rLR1 : List V → Hp → VK → Prop := fun vs H Q => ∃ n, vs = [.int n] ∧ RgOk 0 n ∧ ∀ q, H q = none → Q (.ref q) (upd H q (.lst (rgV 0 n)))
def rLR2 : List V → Hp → VK → Prop := fun vs H Q => ∃ m n, vs = [.int m, .int n] ∧ RgOk m n ∧ ∀ q, H q = none → Q (.ref q) (upd H q (.lst (rgV m n)))
theorem ok_lrg1 : PmOk K rLR1 pLRg1 := by
  intro Z H vs ds res Q hv h q
  unfold pLRg1 at h
  split at h
  · rename_i n
    split at h
    · rename_i c
      cases h
      obtain ⟨x, rfl, hx⟩ := hv.one
      have r := rpA_rgV (K := K) (H := H) 0 n
      rw [Int.sub_zero] at r
      exact ⟨n, by rw [hx.int], rngOk_ok c, fun p hp => q.lst r (fun _ z => nomatch z) hp⟩
    · cases h
  · cases h
theorem ok_lrg2 : PmOk K rLR2 pLRg2 := by
  intro Z H vs ds res Q hv h q
  unfold pLRg2 at h
  split at h
  · rename_i m n
    split at h
    · rename_i c
      cases h
      obtain ⟨x, y, rfl, hx, hy⟩ := hv.two
      exact ⟨m, n, by rw [hx.int, hy.int], rngOk_ok c, fun p hp => q.lst (rpA_rgV m n) (fun _ z => nomatch z) hp⟩
    · cases h
  · cases h
theorem pe_lrg1 {a : Expr} {oa : Opd} {p1 p2 pos2 : Pos} (hc : X.calm = true) (hl : Gl X "list") (ml : X.mg "list" = none) (hg : Gl X "range") (hm : X.mg "range" = none) (ha : PE X a (SemO X.K W oa)) (na : starEach [a] X.env = (false, eval a X.env) :: starEach [] X.env := by rfl) :
    PE X (.Call (.Name "list" p1) [.Call (.Name "range" p2) [a] [] pos2] [] pos) (SemE X.K W (evPm pLRg1 [oa])) := PE.imp (pe_listRg hc hl ml (prg_1 hg hm ha na)) fun σ H Q h =>
  SemO.mono (sem1 (semPm ok_lrg1 h)) fun x H1 ⟨n, e, c, q⟩ => by
    cases e
    exact ⟨n, rfl, c, q⟩
theorem pe_lrg2 {a b : Expr} {oa ob : Opd} {p1 p2 pos2 : Pos} (hc : X.calm = true) (hl : Gl X "list") (ml : X.mg "list" = none) (hg : Gl X "range") (hm : X.mg "range" = none) (ha : PE X a (SemO X.K W oa)) (hb : PE X b (SemO X.K W ob))
    (na : starEach [a, b] X.env = (false, eval a X.env) :: starEach [b] X.env := by rfl) (nb : starEach [b] X.env = (false, eval b X.env) :: starEach [] X.env := by rfl) (hp : (backTo pos2 (starEach [b] X.env)).any (·.1) = false := by rfl) :
    PE X (.Call (.Name "list" p1) [.Call (.Name "range" p2) [a, b] [] pos2] [] pos) (SemE X.K W (evPm pLRg2 [oa, ob])) := PE.imp (pe_listRg hc hl ml (prg_2 hg hm ha hb na nb hp)) fun σ H Q h =>
  SemO.mono (sem2 (semPm ok_lrg2 h)) fun x H1 q => SemO.mono q fun y H2 ⟨m, n, e, c, q2⟩ => by
    cases e
    exact ⟨m, n, rfl, rfl, c, q2⟩
/-! ### constants of the module -/
mutual
def conV (K : PySem.W.Frag) : PyData → Value → Bool
  | .none, .none => true
  | .bool b, .bool c => b == c
  | .int i, .int j _ => decide (j = i)
  | .str x, .str y _ => decide (y = x)
  | .tuple ds, .ref a => (match K.lookup a with
    | some ⟨.type c, _, .seq its _, _⟩ => decide (c = "tuple") && (decide (its.size ≤ sizeLine) && conVA K ds its.toList)
    | _ => false)
  | _, _ => false
def conVA (K : PySem.W.Frag) : List PyData → List Value → Bool
  | [], [] => true
  | d :: ds, v :: vs => conV K d v && conVA K ds vs
  | _, _ => false
end
def ConOk (K : PySem.W.Frag) (d : PyData) (u : Value) : Prop := ∃ v, RelV v u ∧ ∀ H, Rp K H v d []
mutual
theorem conV_ok : ∀ (d : PyData) (u : Value), conV K d u = true → ConOk K d u
  | .none, u, h => by
    cases u <;> first | (simp [conV] at h; done) | exact ⟨.non, rfl, fun _ => .non⟩
  | .bool b, u, h => by
    cases u <;> first | (simp [conV] at h; done) | skip
    simp [conV] at h
    subst h
    exact ⟨.bl b, rfl, fun _ => .bl b⟩
  | .int i, u, h => by
    cases u <;> first | (simp [conV] at h; done) | skip
    simp [conV] at h
    subst h
    exact ⟨.int _, ⟨_, rfl⟩, fun _ => .int _⟩
  | .str i, u, h => by
    cases u <;> first | (simp [conV] at h; done) | skip
    simp [conV] at h
    subst h
    exact ⟨.str _, ⟨_, rfl⟩, fun _ => .str _⟩
  | .tuple ds, u, h => by
    cases u <;> first | (simp [conV] at h; done) | skip
    rename_i a
    simp only [conV] at h
    split at h
    · rename_i c dd its n sl e
      simp only [Bool.and_eq_true, decide_eq_true_eq] at h
      obtain ⟨h1, h2, h3⟩ := h
      subst h1
      obtain ⟨vs, r, g⟩ := conVA_ok ds its.toList h3
      exact ⟨.ref a, rfl, fun H => .tup (.inr ⟨_, its, n, e, rfl, rfl, h2, r⟩) (g H)⟩
    · cases h
  | .list ds, u, h => by cases u <;> simp [conV] at h
  | .dict ds, u, h => by cases u <;> simp [conV] at h
theorem conVA_ok : ∀ (ds : List PyData) (us : List Value), conVA K ds us = true → ∃ vs, Vals vs us ∧ ∀ H, RpA K H vs ds []
  | [], us, h => by
    cases us with
    | nil => exact ⟨[], .nil, fun _ => .nil⟩
    | cons u us => simp [conVA] at h
  | d :: ds, us, h => by
    cases us with
    | nil => simp [conVA] at h
    | cons u us =>
      simp only [conVA, Bool.and_eq_true] at h
      obtain ⟨v, r, g⟩ := conV_ok d u h.1
      obtain ⟨vs, rs, gs⟩ := conVA_ok ds us h.2
      exact ⟨v :: vs, .cons r rs, fun H => .cons (g H) (gs H)⟩
end
def consB (l : List (Str × PyData)) (K : PySem.W.Frag) : Bool := l.all fun q => match PySem.W.nsIn K mainGlobals q.1 with
  | some (some u) => conV K q.2 u
  | _ => false
/-- the module's name x stands for the data d -/
def Con (K : PySem.W.Frag) (mg : Str → Option Value) (x : Str) (d : PyData) : Prop := ∃ u v, mg x = some u ∧ RelV v u ∧ ∀ H, Rp K H v d []
theorem consB_ok {l : List (Str × PyData)} {h : Heap} {mg : Str → Option Value} (c : consB l K = true) (KX : K.In h) (G : h.Ns mainGlobals mg) (i : Nat) {q : Str × PyData} (hq : l[i]? = some q := by rfl) : Con K mg q.1 q.2 := by
  have z := List.all_eq_true.mp c q (List.mem_of_getElem? hq)
  split at z
  · rename_i u e
    obtain ⟨v, r, g⟩ := conV_ok q.2 u z
    exact ⟨u, v, PySem.W.mg_of KX G e, r, g⟩
  · cases z
theorem pe_con {x : Str} {d : PyData} (c : Con X.K X.mg x d) (hg : Gl X x) (hd : (x == ("__debug__" : Str)) = false := by decide) : PE X (.Name x pos) (SemE X.K W (evC d)) := by
  obtain ⟨u, v, e, r, g⟩ := c
  exact pe_cGlob g hg e r hd
end
/-! ### a def whose promise is never asked; the bottom of a recursion -/
def neverF : FnV := fun _ => .stuck
theorem kn_never {P : Program} {w : World} {K : PySem.W.Frag} {mg : Str → Option Value} {base : Heap} {lv k : Nat} {f : Addr} {fd : FuncData} {x qual : Str} {params : Arguments} {body : List Stmt} {scope : Scope} {ps : List Str} (Fd : FunD K x qual params body scope [] [] f fd) (gx : mg x = some (.ref f))
    (h4 : ∀ (kV doc pm : Value) (an : Option Addr) (cdv ct : Value) (us : List Value), us.length = ps.length → bindArgs (PySem.W.fnOf x qual params body scope .none kV doc pm an cdv ct) ⟨us, []⟩ = pure (ps.zip us))
    (h5 : ∀ (kV doc pm : Value) (an : Option Addr) (cdv ct : Value) (us ws : List Value), (us ++ ws).length = ps.length → bindArgs (PySem.W.fnOf x qual params body scope .none kV doc pm an cdv ct) ⟨us, (ps.drop us.length).zip ws⟩ = pure (ps.zip (us ++ ws))) :
    Kn P w K mg base lv x ps k neverF := by
  refine ⟨f, fd, FnG.never fun vs H Q E ⟨_, _, _, _, _, h⟩ => h, gx, Fd.kp, ?_, ?_⟩
  · obtain ⟨oc, od, dV, kV, doc, pm, an, cdv, ct, osl, rfl, lk, hcd, hD, hK⟩ := Fd.ex
    rcases hD with ⟨_, rfl⟩ | ⟨e, _⟩
    · exact h4 kV doc pm an cdv ct
    · exact absurd rfl e
  · obtain ⟨oc, od, dV, kV, doc, pm, an, cdv, ct, osl, rfl, lk, hcd, hD, hK⟩ := Fd.ex
    rcases hD with ⟨_, rfl⟩ | ⟨e, _⟩
    · exact h5 kV doc pm an cdv ct
    · exact absurd rfl e
end
end Ev
set_option linter.all false
set_option autoImplicit false
set_option maxRecDepth 100000
/-! LawC: what all laws share: the feed of drawn numbers. -/
namespace LawC
open PySem PySem.Spec L2 Ev
open PyProof.Rows hiding St
noncomputable section
def ev__law_feed : EvS := sSeq (sAsg 2 (evPm (pm2 fAdd) [.ex (evPm (pm2 fMul) [.ex (evC (.int 977)), .pl 1]), .ex (evPm pSum [.ex (evPm pSl01 [.pl 0, .ex (evC (.int 1))])])])) (sSeq (sIf (tvOf (evPm (pm2 fLt) [.pl 1, .ex (evPm pLen [.pl 0])])) (sAsg 2 (evPm (pm2 fIx) [.pl 0, .pl 1])) (sNil)) (sRet (evPm pLst ([evPm pMax2 [.ex (evC (.int 0)), .ex (evPm (pm2 fSub) [.pl 2, .ex (evPm (pm2 fPow) [.ex (evC (.int 10)), .ex (evC (.int 18))])])], evPm (pm2 fMod) [.ex (evPm pInt [.ex (evPm (pm2 fAdd) [.ex (evPm (pm2 fMul) [.pl 2, .ex (evC (.int 19))]), .ex (evPm (pm2 fMul) [.ex (evC (.int 7)), .pl 1])])]), .ex (evPm (pm2 fAdd) [.ex (evPm (pm2 fPow) [.ex (evC (.int 10)), .ex (evC (.int 39))]), .ex (evC (.int 23))])], evC (.int 0)].map .ex))))
def F__law_feed : FnV := mkF 1 ev__law_feed
def ev__law_draw : EvS := sSeq (sIf (tvOf (evPm (pm2 fGt) [.ex (evPm (pm2 fIx) [.pl 0, .ex (evC (.int 0))]), .ex (evC (.int 0))])) (sSeq (sAsg 2 (evPm (pm2 fDiv) [.ex (evPm (pm2 fIx) [.pl 0, .ex (evC (.int 0))]), .pl 1])) (sSeq (sAsg 3 (evPm (pm2 fSub) [.ex (evPm (pm2 fIx) [.pl 0, .ex (evC (.int 0))]), .ex (evPm (pm2 fMul) [.pl 2, .pl 1])])) (sSeq (sSet 0 (evVar 2) (evC (.int 0))) (sRet (evMv 3))))) (sNil)) (sSeq (sSet 0 (evPm (pm2 fAdd) [.ex (evPm (pm2 fIx) [.pl 0, .ex (evC (.int 2))]), .ex (evC (.int 1))]) (evC (.int 2))) (sSeq (sAsg 4 (evPm (pm2 fAdd) [.ex (evPm (pm2 fIx) [.pl 0, .ex (evC (.int 1))]), .ex (evPm (pm2 fMul) [.ex (evC (.int 6700417)), .ex (evPm (pm2 fIx) [.pl 0, .ex (evC (.int 2))])])])) (sSeq (sAsg 4 (evPm (pm2 fMod) [.ex (evPm pInt [.ex (evPm (pm2 fAdd) [.ex (evPm (pm2 fMul) [.ex (evPm (pm2 fMul) [.pl 4, .pl 4]), .pl 4]), .ex (evPm (pm2 fMul) [.ex (evC (.int 15485863)), .ex (evPm (pm2 fIx) [.pl 0, .ex (evC (.int 2))])])])]), .ex (evPm (pm2 fAdd) [.ex (evPm (pm2 fPow) [.ex (evC (.int 10)), .ex (evC (.int 43))]), .ex (evC (.int 57))])])) (sSeq (sAsg 4 (evPm (pm2 fMod) [.ex (evPm pInt [.ex (evPm (pm2 fAdd) [.ex (evPm (pm2 fMul) [.pl 4, .pl 4]), .ex (evC (.int 32452843))])]), .ex (evPm (pm2 fAdd) [.ex (evPm (pm2 fPow) [.ex (evC (.int 10)), .ex (evC (.int 38))]), .ex (evC (.int 133))])])) (sRet (evPm (pm2 fMod) [.ex (evPm pInt [.ex (evPm (pm2 fDiv) [.pl 4, .ex (evPm (pm2 fPow) [.ex (evC (.int 10)), .ex (evC (.int 9))])])]), .pl 1]))))))
def F__law_draw : FnV := mkF 3 ev__law_draw
def ev__law_one : EvS := sRet (evPm (pm2 fIx) [.pl 1, .ex (evCall F__law_draw [.pl 0, .ex (evPm pLen [.pl 1])])])
def F__law_one : FnV := mkF 0 ev__law_one
theorem le_line {n : Nat} : n ≤ lineN ↔ n ≤ 16777216 := by rw [lineN_eq]
theorem lt_line {n : Nat} : n < lineN ↔ n < 16777216 := by rw [lineN_eq]
theorem cdec_iff {p : Prop} : (cdec p = true) ↔ p := ⟨of_cdec, cdec_of⟩
theorem keepIo_none : keepIo none = none := rfl
theorem keepIo_sh (d : PyData) : keepIo (some (.sh d)) = none := rfl
theorem keepIo_ow (d : PyData) : keepIo (some (.ow d)) = none := rfl
theorem keepIo_ex (a : Addr) (c : Str) : keepIo (some (.ex a c)) = none := rfl
theorem keepIo_io (d : PyData) : keepIo (some (.io d)) = some (.io d) := rfl
theorem keepIo_lk (d : PyData) : keepIo (some (.lk d)) = some (.lk d) := rfl
theorem isNone_none : isNoneD .none = true := rfl
theorem isNone_bool (b : Bool) : isNoneD (.bool b) = false := rfl
theorem isNone_int (b : Int) : isNoneD (.int b) = false := rfl
theorem isNone_str (b : Str) : isNoneD (.str b) = false := rfl
theorem isNone_list (b : List PyData) : isNoneD (.list b) = false := rfl
theorem isNone_tuple (b : List PyData) : isNoneD (.tuple b) = false := rfl
theorem fEqX_int (i j : Int) : fEqX (.int i) (.int j) = some (.sh (.bool (decide (i = j)))) := fEq_int i j
theorem fNeX_int (i j : Int) : fNeX (.int i) (.int j) = some (.sh (.bool (!decide (i = j)))) := fNe_int i j
theorem fEqX_str (i j : Str) : fEqX (.str i) (.str j) = some (.sh (.bool (decide (i = j)))) := rfl
theorem fNeX_str (i j : Str) : fNeX (.str i) (.str j) = some (.sh (.bool (!decide (i = j)))) := rfl
theorem fEqX_bool (i j : Bool) : fEqX (.bool i) (.bool j) = some (.sh (.bool (i == j))) := by
  have e : (PyData.bool i).eqv (.bool j) = (i == j) := by simp only [PyData.eqv]
  simp [fEqX, fEq, shp_bool, e]
theorem fNeX_bool (i j : Bool) : fNeX (.bool i) (.bool j) = some (.sh (.bool (i != j))) := by
  have e : (PyData.bool i).eqv (.bool j) = (i == j) := by simp only [PyData.eqv]
  simp [fNeX, fNe, shp_bool, e, bne]
theorem draw_ok {n : Nat} {f : PyData} {m : Int} (hf : FeedOk n f) (hn : n ≤ 1000000) (hm : 0 < m) (hL : L m < 9000) : ∃ r f', 0 ≤ r ∧ r < m ∧ FeedOk (n + 1) f' ∧ F__law_draw [.io f, .sh (.int m)] = .ret (.sh (.int r)) [some (.io f'), none, none, none, none] := by
  obtain ⟨a, b, c, rfl, ha, hLa, hb, hb2, hc, hcn⟩ := hf
  by_cases h : 0 < a
  · have hd : divB a m = true := divB_L hm hL
    have hq : L (a / m) ≤ L a := L_div a ha hm
    have hmul : mulB (a / m) m = true := mulB_L (by omega)
    have hge : 0 ≤ a / m := Int.ediv_nonneg ha (Int.le_of_lt hm)
    have hr : a - a / m * m = a % m := by
      rw [Int.emod_def, Int.mul_comm]
    refine ⟨a % m, .list [.int (a / m), .int b, .int c], Int.emod_nonneg _ (by omega), Int.emod_lt_of_pos _ hm, ⟨a / m, b, c, rfl, hge, by omega, hb, hb2, hc, by omega⟩, ?_⟩
    simp [lineN_eq, n64_eq, cdec_iff, mkF, trimO, trimE, keepIo_none, keepIo_sh, keepIo_ow, keepIo_io, keepIo_lk, keepIo_ex, entry, sSeq, sNil, sRet, sIf, sEx, sAsg, sSet, sRaise, sPar, evRs, bindRs, bindR, evC, evVar, evMv, evPm, evOs, evO, looks, look, pm1, pm2, evAnd, evOr, evNot, evIf, boolR, tvOf, tvAnd, tvOr, tvNot, truthD, Res.d, Sl.d, putR, free_none, free_sh, free_ow, free_ex, free_io, free_lk, Res.sl, pLen, pList, pTuple, pInt, pMax2, pMin2, pTup, pLst, pIsi, pIsiT, tyD, isTy, evCall, argSls, argSl, apart, clash, backA, Sl.wr, Sl.to, evMut, fEqX_int, fNeX_int, fEqX_str, fNeX_str, fIx, fCmp, fAdd, fInt, fIntC, mSet, powB, isL, evIntK, evCh, evInt, fIs, fIsN, isNone_none, isNone_bool, isNone_int, isNone_str, isNone_list, isNone_tuple, evMeth, fNeg, F__law_draw, ev__law_draw, atI, ixN, h, hd, hmul, hr]
  · have h0 : a = 0 := by omega
    subst h0
    have hc1 : c + 1 ≤ 1000001 := by omega
    have m1 : ∀ x : Int, mulB 6700417 x = true := fun x => mulB_small (by decide)
    have m2 : ∀ x : Int, mulB 15485863 x = true := fun x => mulB_small (by decide)
    have hL1 : ∀ x : Int, 0 ≤ x → x < 2 ^ 150 → L x ≤ 150 := fun x h1 h2 => L_lt (by
      have e : ((2 : Int) ^ 150).toNat = 2 ^ 150 := by decide
      have e2 : (2 : Nat) ^ (150 + 1) = 2 * 2 ^ 150 := by decide
      omega)
    have q43 : ∀ x : Int, 0 ≤ x % 10000000000000000000000000000000000000000057 ∧ x % 10000000000000000000000000000000000000000057 < 2 ^ 150 := fun x => ⟨Int.emod_nonneg _ (by decide), Int.lt_trans (Int.emod_lt_of_pos _ (by decide)) (by decide)⟩
    have hs : 0 ≤ b + 6700417 * (c + 1) ∧ b + 6700417 * (c + 1) < 2 ^ 150 := by
      refine ⟨by omega, ?_⟩
      have e40 : (10 : Int) ^ 40 = 10000000000000000000000000000000000000000 := by decide
      have e150 : (2 : Int) ^ 150 = 1427247692705959881058285969449495136382746624 := by decide
      rw [e40] at hb2
      rw [e150]
      omega
    have k1 : mulB (b + 6700417 * (c + 1)) (b + 6700417 * (c + 1)) = true := mulB_L (by have := hL1 _ hs.1 hs.2; omega)
    have k2 : mulB ((b + 6700417 * (c + 1)) * (b + 6700417 * (c + 1))) (b + 6700417 * (c + 1)) = true := mulB_L (by
      have := hL1 _ hs.1 hs.2
      have := L_mul (b + 6700417 * (c + 1)) (b + 6700417 * (c + 1))
      omega)
    have k3 : ∀ x : Int, mulB (x % 10000000000000000000000000000000000000000057) (x % 10000000000000000000000000000000000000000057) = true := fun x => mulB_L (by have := hL1 _ (q43 x).1 (q43 x).2; omega)
    have k4 : ∀ x : Int, modB x m = true := fun x => modB_pos hm
    have k5 : ∀ x : Int, modB x 10000000000000000000000000000000000000000057 = true := fun x => modB_pos (by decide)
    have k6 : ∀ x : Int, modB x 100000000000000000000000000000000000133 = true := fun x => modB_pos (by decide)
    have k7 : ∀ x : Int, divB x 1000000000 = true := fun x => divB_L (by decide) (Nat.lt_of_le_of_lt (L_lt (n := 30) (by decide)) (by decide))
    have fin : ∀ x : Int, 0 ≤ x % m ∧ x % m < m := fun x => ⟨Int.emod_nonneg _ (by omega), Int.emod_lt_of_pos _ hm⟩
    let s : Int := b + 6700417 * (c + 1)
    let t : Int := (s * s * s + 15485863 * (c + 1)) % 10000000000000000000000000000000000000000057
    let u : Int := (t * t + 32452843) % 100000000000000000000000000000000000133
    refine ⟨(u / 1000000000) % m, .list [.int 0, .int b, .int (c + 1)], (fin _).1, (fin _).2, ⟨0, b, c + 1, rfl, by decide, by decide, hb, hb2, by omega, by omega⟩, ?_⟩
    simp [lineN_eq, n64_eq, cdec_iff, mkF, trimO, trimE, keepIo_none, keepIo_sh, keepIo_ow, keepIo_io, keepIo_lk, keepIo_ex, entry, sSeq, sNil, sRet, sIf, sEx, sAsg, sSet, sRaise, sPar, evRs, bindRs, bindR, evC, evVar, evMv, evPm, evOs, evO, looks, look, pm1, pm2, evAnd, evOr, evNot, evIf, boolR, tvOf, tvAnd, tvOr, tvNot, truthD, Res.d, Sl.d, putR, free_none, free_sh, free_ow, free_ex, free_io, free_lk, Res.sl, pLen, pList, pTuple, pInt, pMax2, pMin2, pTup, pLst, pIsi, pIsiT, tyD, isTy, evCall, argSls, argSl, apart, clash, backA, Sl.wr, Sl.to, evMut, fEqX_int, fNeX_int, fEqX_str, fNeX_str, fIx, fCmp, fAdd, fInt, fIntC, mSet, powB, isL, evIntK, evCh, evInt, fIs, fIsN, isNone_none, isNone_bool, isNone_int, isNone_str, isNone_list, isNone_tuple, evMeth, fNeg, F__law_draw, ev__law_draw, atI, ixN, m1, m2, k1, k2, k3, k4, k5, k6, k7, s, t, u]
theorem feed_ok {ns : List Int} (hb : ∀ z ∈ ns, Builtin.Int.intBits z ≤ 1048576) (k : Nat) (hk : k ≤ 100) : ∃ f, FeedOk 0 f ∧ F__law_feed [.sh (.list (ns.map PyData.int)), .sh (.int k)] = .ret (.ow f) [none, none, none] := by
  have hk2 : (k : Int).natAbs < 2 ^ 20 := by
    have : (2 : Nat) ^ 20 = 1048576 := by decide
    omega
  have hLk : ∀ z : Int, z.natAbs < 2 ^ 20 → L z ≤ 1048577 := fun z hz => Nat.le_trans (L_lt (n := 19) hz) (by decide)
  have m1 : ∀ x : Int, mulB 977 x = true := fun x => mulB_small (by decide)
  have m2 : ∀ x : Int, mulB x 19 = true := fun x => mulB_small' (by decide)
  have m3 : ∀ x : Int, mulB 7 x = true := fun x => mulB_small (by decide)
  have k6 : ∀ x : Int, modB x 1000000000000000000000000000000000000023 = true := fun x => modB_pos (by decide)
  -- the cell
  have cell : ∃ c : Int, L c ≤ 1100000 ∧ F__law_feed [.sh (.list (ns.map PyData.int)), .sh (.int k)] = .ret (.ow (.list [.int (if c - 1000000000000000000 > 0 then c - 1000000000000000000 else 0), .int ((c * 19 + 7 * k) % 1000000000000000000000000000000000000023), .int 0])) [none, none, none] := by
    have c1 : cutD (ns.map PyData.int) none (some 1) = (ns.take 1).map PyData.int := by
      have := cutD_to (ns.map PyData.int) 1
      rw [List.map_take]
      exact this
    have c2 : intsD (List.take 1 (ns.map PyData.int)) = some (ns.take 1) := by rw [← List.map_take]; exact intsD_map _
    by_cases h : k < ns.length
    · have e : (ns.map PyData.int)[k]? = some (.int ns[k]) := by simp [h]
      refine ⟨ns[k], Nat.le_trans (L_bits (hb _ (List.getElem_mem h))) (by decide), ?_⟩
      have h' : (k : Int) < ns.length := by omega
      simp [lineN_eq, n64_eq, cdec_iff, mkF, trimO, trimE, keepIo_none, keepIo_sh, keepIo_ow, keepIo_io, keepIo_lk, keepIo_ex, entry, sSeq, sNil, sRet, sIf, sEx, sAsg, sSet, sRaise, sPar, evRs, bindRs, bindR, evC, evVar, evMv, evPm, evOs, evO, looks, look, pm1, pm2, evAnd, evOr, evNot, evIf, boolR, tvOf, tvAnd, tvOr, tvNot, truthD, Res.d, Sl.d, putR, free_none, free_sh, free_ow, free_ex, free_io, free_lk, Res.sl, pLen, pList, pTuple, pInt, pMax2, pMin2, pTup, pLst, pIsi, pIsiT, tyD, isTy, evCall, argSls, argSl, apart, clash, backA, Sl.wr, Sl.to, evMut, fEqX_int, fNeX_int, fEqX_str, fNeX_str, fIx, fCmp, fAdd, fInt, fIntC, mSet, powB, isL, evIntK, evCh, evInt, fIs, fIsN, isNone_none, isNone_bool, isNone_int, isNone_str, isNone_list, isNone_tuple, evMeth, fNeg, F__law_feed, ev__law_feed, m1, m2, m3, k6, pSl01, slF, c1, pSum, c2, h', atI_nat e]
    · refine ⟨977 * k + (ns.take 1).sum, ?_, ?_⟩
      · refine L_add (n := 1099999) (Nat.le_trans (L_mul _ _) ?_) ?_
        · have := hLk k hk2
          have h2 : L 977 ≤ 10 := L_lt (by decide)
          omega
        · cases ns with
          | nil => exact Nat.le_trans (L_lt (n := 1) (by decide)) (by decide)
          | cons n ns =>
            have : ((n :: ns).take 1).sum = n := by simp
            rw [this]
            exact Nat.le_trans (L_bits (hb n (by simp))) (by decide)
      · have h' : ¬ (k : Int) < ns.length := by omega
        simp [lineN_eq, n64_eq, cdec_iff, mkF, trimO, trimE, keepIo_none, keepIo_sh, keepIo_ow, keepIo_io, keepIo_lk, keepIo_ex, entry, sSeq, sNil, sRet, sIf, sEx, sAsg, sSet, sRaise, sPar, evRs, bindRs, bindR, evC, evVar, evMv, evPm, evOs, evO, looks, look, pm1, pm2, evAnd, evOr, evNot, evIf, boolR, tvOf, tvAnd, tvOr, tvNot, truthD, Res.d, Sl.d, putR, free_none, free_sh, free_ow, free_ex, free_io, free_lk, Res.sl, pLen, pList, pTuple, pInt, pMax2, pMin2, pTup, pLst, pIsi, pIsiT, tyD, isTy, evCall, argSls, argSl, apart, clash, backA, Sl.wr, Sl.to, evMut, fEqX_int, fNeX_int, fEqX_str, fNeX_str, fIx, fCmp, fAdd, fInt, fIntC, mSet, powB, isL, evIntK, evCh, evInt, fIs, fIsN, isNone_none, isNone_bool, isNone_int, isNone_str, isNone_list, isNone_tuple, evMeth, fNeg, F__law_feed, ev__law_feed, m1, m2, m3, k6, pSl01, slF, c1, pSum, c2, h']
  obtain ⟨c, hc, e⟩ := cell
  refine ⟨_, ⟨_, _, 0, rfl, ?_, ?_, Int.emod_nonneg _ (by decide), Int.lt_trans (Int.emod_lt_of_pos _ (by decide)) (by decide), by decide, by decide⟩, e⟩
  · split <;> omega
  · split
    · exact Nat.le_trans (L_sub (n := 1100000) hc (Nat.le_trans (L_lt (n := 60) (by decide)) (by decide))) (by decide)
    · exact Nat.le_trans (L_lt (n := 1) (by decide)) (by decide)
/-! whole comprehensions, whole loops -/
theorem evLc_of {os : List Opd} {mk : List PyData → Option (List PyData)} {t : Tg} {vs : List Nat} {tt : Tv} {te : Ev} {ρ ρ1 ρ2 ρ3 : Ev.Env} {as : List Ev.Arg} {ds items acc : List PyData} (h1 : evOs os ρ = .ok as ρ1) (h2 : looks ρ1 as = some ds) (h3 : mk ds = some items) (h4 : calmB ρ1 vs = true) (h5 : items.length ≤ 16777216)
    (h6 : lcGo t vs tt te items [] (wipeE (lks as ρ1) vs) = .ok acc ρ2) (h7 : restE ρ1 (uns as ρ1 ρ2) vs = ρ3) : evLc os mk t vs tt te ρ = .ok (.ow (.list acc)) ρ3 := by
  unfold evLc
  rw [h1]
  dsimp only
  rw [h2]
  dsimp only
  rw [h3]
  dsimp only
  rw [if_pos ⟨h4, le_line.mpr h5⟩, h6]
  dsimp only
  rw [h7]
/-- each item of what is walked becomes one item -/
theorem evLc_map {os : List Opd} {mk : List PyData → Option (List PyData)} {t : Tg} {vs : List Nat} {te : Ev} {ρ ρ1 ρ2 ρ3 : Ev.Env} {as : List Ev.Arg} {ds items : List PyData} (g : PyData → PyData) (h1 : evOs os ρ = .ok as ρ1) (h2 : looks ρ1 as = some ds) (h3 : mk ds = some items) (h4 : calmB ρ1 vs = true) (h5 : items.length ≤ 16777216)
    (hw : wipeE (lks as ρ1) vs = ρ2) (h6 : ∀ d ∈ items, ∃ ρa, bindT t d ρ2 = some ρa ∧ ∃ r ρb, te ρa = .ok r ρb ∧ r.d = g d ∧ wipeE ρb vs = ρ2) (h7 : restE ρ1 (uns as ρ1 ρ2) vs = ρ3) : evLc os mk t vs tvYes te ρ = .ok (.ow (.list (items.map g))) ρ3 := by
  refine evLc_of h1 h2 h3 h4 h5 ?_ h7
  have q := lcGo_map (t := t) (vs := vs) (tt := tvYes) (te := te) (ρ0 := ρ2) g items [] fun d hd => by
    obtain ⟨ρa, e1, r, ρb, e2, e3, e4⟩ := h6 d hd
    exact ⟨ρa, ρa, e1, rfl, r, ρb, e2, e3, e4⟩
  rw [hw]
  simpa using q
/-- .. if it passes the test -/
theorem evLc_filter {os : List Opd} {mk : List PyData → Option (List PyData)} {t : Tg} {vs : List Nat} {tt : Tv} {te : Ev} {ρ ρ1 ρ2 ρ3 : Ev.Env} {as : List Ev.Arg} {ds items : List PyData} (p : PyData → Bool) (g : PyData → PyData) (h1 : evOs os ρ = .ok as ρ1) (h2 : looks ρ1 as = some ds) (h3 : mk ds = some items) (h4 : calmB ρ1 vs = true) (h5 : items.length ≤ 16777216)
    (hw : wipeE (lks as ρ1) vs = ρ2) (h6 : ∀ d ∈ items, ∃ ρa ρb, bindT t d ρ2 = some ρa ∧ tt ρa = .ok (p d) ρb ∧ (p d = true → ∃ r ρc, te ρb = .ok r ρc ∧ r.d = g d ∧ wipeE ρc vs = ρ2) ∧ (p d = false → wipeE ρb vs = ρ2)) (h7 : restE ρ1 (uns as ρ1 ρ2) vs = ρ3) : evLc os mk t vs tt te ρ = .ok (.ow (.list ((items.filter p).map g))) ρ3 := by
  refine evLc_of h1 h2 h3 h4 h5 ?_ h7
  rw [hw, lcGo_pure p g items [] h6]
  rfl
theorem evFor_next {os : List Opd} {mk : List PyData → Option (List PyData)} {t : Tg} {body : EvS} {ρ ρ1 ρ2 ρ3 : Ev.Env} {as : List Ev.Arg} {ds items : List PyData} (h1 : evOs os ρ = .ok as ρ1) (h2 : looks ρ1 as = some ds) (h3 : mk ds = some items) (h4 : forGo t body items (lks as ρ1) = .next ρ2) (h5 : uns as ρ1 ρ2 = ρ3) : evFor os mk t body ρ = .next ρ3 := by
  rw [← h5]
  exact evFor_run h1 h2 h3 h4
theorem evFor_ret {os : List Opd} {mk : List PyData → Option (List PyData)} {t : Tg} {body : EvS} {ρ ρ1 ρ2 ρ3 : Ev.Env} {as : List Ev.Arg} {ds items : List PyData} {r : Res} (h1 : evOs os ρ = .ok as ρ1) (h2 : looks ρ1 as = some ds) (h3 : mk ds = some items) (h4 : forGo t body items (lks as ρ1) = .ret r ρ2) (h5 : uns as ρ1 ρ2 = ρ3) : evFor os mk t body ρ = .ret r ρ3 := by
  rw [← h5]
  exact evFor_run h1 h2 h3 h4
theorem keepIo_free {x : Option Sl} (h : Sl.free x = true) : keepIo x = none := by
  cases x with
  | none => rfl
  | some s => cases s <;> first | rfl | cases h
/-- a loop that goes on till it finds: g tells what is handed back at an item -/
theorem forGo_find {α : Type} {t : Tg} {body : EvS} (f : α → PyData) (I J : Ev.Env → Prop) (g : α → Option Res) : ∀ (l : List α) (ρ : Ev.Env), I ρ → (∀ a ∈ l, ∀ ρ, I ρ → ∃ ρ1, bindT t (f a) ρ = some ρ1 ∧ match g a with
    | some r => ∃ ρ2, body ρ1 = .ret r ρ2 ∧ J ρ2
    | none => ∃ ρ2, body ρ1 = .next ρ2 ∧ I ρ2) → match l.findSome? g with
    | some r => ∃ ρ2, forGo t body (l.map f) ρ = .ret r ρ2 ∧ J ρ2
    | none => ∃ ρ2, forGo t body (l.map f) ρ = .next ρ2 ∧ I ρ2
  | [], ρ, h0, _ => ⟨ρ, rfl, h0⟩
  | a :: l, ρ, h0, h => by
    obtain ⟨ρ1, e1, e2⟩ := h a (by simp) ρ h0
    rw [List.findSome?_cons]
    cases hg : g a with
    | some r =>
      rw [hg] at e2
      obtain ⟨ρ2, e3, e4⟩ := e2
      exact ⟨ρ2, by simp only [List.map_cons, forGo, e1, e3], e4⟩
    | none =>
      rw [hg] at e2
      obtain ⟨ρ2, e3, e4⟩ := e2
      have ih := forGo_find f I J g l ρ2 e4 fun d hd => h d (by simp [hd])
      have step : forGo t body ((a :: l).map f) ρ = forGo t body (l.map f) ρ2 := by simp only [List.map_cons, forGo, e1, e3]
      rw [step]
      exact ih
/-- every turn goes on, the state counted -/
theorem forGo_all {α : Type} {t : Tg} {body : EvS} (f : α → PyData) (I : Nat → Ev.Env → Prop) (l : List α) (ρ : Ev.Env) (h0 : I 0 ρ) (h : ∀ (i : Nat) (a : α) ρ, l[i]? = some a → I i ρ → ∃ ρ1 ρ2, bindT t (f a) ρ = some ρ1 ∧ (body ρ1 = .next ρ2 ∨ body ρ1 = .cont ρ2) ∧ I (i + 1) ρ2) :
    ∃ ρ', forGo t body (l.map f) ρ = .next ρ' ∧ I l.length ρ' := by
  obtain ⟨ρ', e1, e2⟩ := forGo_inv (t := t) (body := body) I (l.map f) 0 ρ h0 fun i d ρ hi hI => by
    rw [List.getElem?_map] at hi
    obtain ⟨a, ha, rfl⟩ := Option.map_eq_some_iff.mp hi
    rw [Nat.zero_add] at hI ⊢
    exact h i a ρ ha hI
  exact ⟨ρ', e1, by simpa using e2⟩
theorem sSeq_ret {a b : EvS} {ρ ρ1 : Ev.Env} {r : Res} (h : a ρ = .ret r ρ1) : sSeq a b ρ = .ret r ρ1 := by
  unfold sSeq
  rw [h]
/-! ranges -/
theorem e62 : (2 : Int) ^ 62 = 4611686018427387904 := by decide
theorem kR1 {n : Nat} (h : n ≤ 16777216) : kRange1 [.int (n : Int)] = some (rgI 0 n) := by
  have q : kRange1 [.int (n : Int)] = if -p62 ≤ (n : Int) ∧ (n : Int) < p62 then some (rgI 0 (n : Int).toNat) else none := rfl
  rw [q, p62_eq, e62, if_pos ⟨by omega, by omega⟩, Int.toNat_natCast]
theorem kR2 {m n : Nat} (h : n ≤ 16777216) (hm : m ≤ 16777216) : kRange2 [.int (m : Int), .int (n : Int)] = some (rgI m (n - m)) := by
  have q : kRange2 [.int (m : Int), .int (n : Int)] = if (-p62 ≤ (m : Int) ∧ (m : Int) < p62) ∧ (-p62 ≤ (n : Int) ∧ (n : Int) < p62) then some (rgI m ((n : Int) - m).toNat) else none := rfl
  have z : ((n : Int) - m).toNat = n - m := by omega
  rw [q, p62_eq, e62, if_pos ⟨⟨by omega, by omega⟩, by omega, by omega⟩, z]
theorem rgI_map (a n : Nat) : rgI (a : Int) n = (List.range' a n).map fun i : Nat => .int (i : Int) := by
  unfold rgI
  rw [List.range'_eq_map_range, List.map_map]
  congr 1
theorem rgI_map0 (n : Nat) : rgI 0 n = (List.range n).map fun i : Nat => .int (i : Int) := by
  simp [rgI]
theorem rngOk_nat {n : Nat} (h : n ≤ 16777216) : rngOk 0 (n : Int) = true := by
  unfold rngOk
  refine cdec_of ?_
  have e2 : (2 : Nat) ^ 24 = 16777216 := by decide
  rw [e62, e2]
  exact ⟨by omega, by omega, by omega, by omega, by omega⟩
theorem lrg_nat {n : Nat} (h : n ≤ 16777216) : pLRg1 [.int (n : Int)] = some (.ow (.list (rgI 0 n))) := by
  have q : pLRg1 [.int (n : Int)] = if rngOk 0 (n : Int) = true then some (.ow (.list (rgI 0 (n : Int).toNat))) else none := rfl
  rw [q, if_pos (rngOk_nat h), Int.toNat_natCast]
/-- every turn adds to what is gathered; all of it together is no more than B -/
theorem forGo_acc {α β : Type} {t : Tg} {body : EvS} (B : Nat) (f : α → PyData) (R : List β → Ev.Env → Prop) (h : α → List β) : ∀ (l : List α) (acc : List β) (ρ : Ev.Env), acc.length + (l.flatMap h).length ≤ B → R acc ρ → (∀ a ∈ l, ∀ acc ρ, acc.length + (h a).length ≤ B → R acc ρ → ∃ ρ1 ρ2, bindT t (f a) ρ = some ρ1 ∧ body ρ1 = .next ρ2 ∧ R (acc ++ h a) ρ2) →
    ∃ ρ', forGo t body (l.map f) ρ = .next ρ' ∧ R (acc ++ l.flatMap h) ρ'
  | [], acc, ρ, _, h0, _ => ⟨ρ, rfl, by simpa using h0⟩
  | a :: l, acc, ρ, hB, h0, hs => by
    rw [List.flatMap_cons, List.length_append] at hB
    obtain ⟨ρ1, ρ2, e1, e2, e3⟩ := hs a (by simp) acc ρ (by omega) h0
    obtain ⟨ρ', e4, e5⟩ := forGo_acc B f R h l (acc ++ h a) ρ2 (by rw [List.length_append]; omega) e3 fun b hb => hs b (by simp [hb])
    refine ⟨ρ', by simp only [List.map_cons, forGo, e1, e2]; exact e4, ?_⟩
    rw [List.flatMap_cons, ← List.append_assoc]
    exact e5
theorem flatMap_le {α β : Type} (h : α → List β) (c : Nat) : ∀ l : List α, (∀ a ∈ l, (h a).length ≤ c) → (l.flatMap h).length ≤ l.length * c
  | [], _ => by simp
  | a :: l, hc => by
    have i1 := hc a (by simp)
    have i2 := flatMap_le h c l fun b hb => hc b (by simp [hb])
    rw [List.flatMap_cons, List.length_append, List.length_cons, Nat.succ_mul]
    omega
theorem popAt_nat {ds : List PyData} {i : Nat} {v : PyData} (h : ds[i]? = some v) (hi : i < 1000000000) : mPopAt ds [.int (i : Int)] = some (ds.eraseIdx i, v) := by
  have cd : cdec (0 ≤ (i : Int) ∧ (i : Int) < 1000000000) = true := cdec_of ⟨by omega, by omega⟩
  unfold mPopAt
  dsimp only
  rw [if_pos cd, Int.toNat_natCast, h]
theorem append_ok {ds : List PyData} {d : PyData} (h : ds.length < 16777216) : mAppend ds [d] = some (ds ++ [d], .none) := by
  unfold mAppend
  dsimp only
  rw [if_pos (by rw [lineN_eq]; exact h)]
theorem erase_map {α β : Type} (f : α → β) : ∀ (l : List α) (i : Nat), (l.map f).eraseIdx i = (l.eraseIdx i).map f
  | [], _ => by simp
  | a :: l, 0 => by simp
  | a :: l, i + 1 => by simp [erase_map f l i]
theorem take_out {α : Type} {v : α} : ∀ {l : List α} {i : Nat}, l[i]? = some v → (v :: l.eraseIdx i).Perm l
  | [], _, h => by simp at h
  | a :: l, 0, h => by
    simp at h
    subst h
    simp
  | a :: l, i + 1, h => by
    have ih := take_out (l := l) (i := i) (by simpa using h)
    simp only [List.eraseIdx_cons_succ]
    exact (List.Perm.swap a v _).trans (ih.cons a)
end
end LawC
set_option linter.all false
set_option autoImplicit false
set_option maxRecDepth 100000
/-! LawS: how long a repr may be. -/
namespace LawS
open PySem PySem.Spec L2 Ev
mutual
def sw : PyData → Nat
  | .none => 4
  | .bool _ => 5
  | .int i => i.natAbs.log2 + 2
  | .str x => (reprText x).length
  | .list xs => swA xs + 2
  | .tuple xs => swA xs + 3
  | .dict _ => 0
def swA : List PyData → Nat
  | [] => 0
  | x :: xs => sw x + 2 + swA xs
end
mutual
theorem shown_le : ∀ d : PyData, d.canLay0 = true → d.shown.length ≤ sw d
  | .none, _ => by rw [PyData.shown_none]; exact Nat.le_of_eq rfl
  | .bool b, _ => by rw [PyData.shown_bool]; cases b <;> decide
  | .int i, _ => by
    rw [PyData.shown_int, ofString_length]
    have := int_text_length_le (a := i) (k := i.natAbs.log2 + 1) (by omega) (by omega)
    simp only [sw]
    omega
  | .str x, _ => by rw [PyData.shown_str]; simp [sw]
  | .list xs, h => by
    have ih := shownAll_le xs (by simpa [PyData.canLay0] using h)
    rw [PyData.shown_list, Str.length_append, Str.length_append]
    have j := StrLaws.join_length_le ", " (PyData.shownAll xs)
    have e1 : (Str.ofString "[").length = 1 := by decide
    have e2 : (Str.ofString "]").length = 1 := by decide
    have e3 : (Str.ofString ", ").length = 2 := by decide
    simp only [sw]
    rw [e3] at j
    omega
  | .tuple xs, h => by
    have ih := shownAll_le xs (by simpa [PyData.canLay0] using h)
    rw [PyData.shown_tuple, Str.length_append, Str.length_append]
    have j := StrLaws.join_length_le ", " (PyData.shownAll xs)
    have e1 : (Str.ofString "(").length = 1 := by decide
    have e2 : (Str.ofString (if (xs.length == 1) = true then ",)" else ")")).length ≤ 2 := by split <;> decide
    have e3 : (Str.ofString ", ").length = 2 := by decide
    simp only [sw]
    rw [e3] at j
    omega
  | .dict _, h => by simp [PyData.canLay0] at h
theorem shownAll_le : ∀ ds : List PyData, PyData.canLayAll0 ds = true → ((PyData.shownAll ds).map (·.length)).sum + (PyData.shownAll ds).length * 2 ≤ swA ds
  | [], _ => by simp [PyData.shownAll_nil, swA]
  | d :: ds, h => by
    simp only [PyData.canLayAll0, Bool.and_eq_true] at h
    have i1 := shown_le d h.1
    have i2 := shownAll_le ds h.2
    rw [PyData.shownAll_cons]
    simp only [List.map_cons, List.sum_cons, List.length_cons, swA]
    omega
end
theorem repr_eq {d : PyData} (h1 : shp d = true) (h2 : d.showable = true) (h3 : sw d ≤ 16777216) : pRepr [d] = some (.sh (.str d.shown)) := by
  have h4 : d.shown.length ≤ lineN := by
    rw [lineN_eq]
    exact Nat.le_trans (shown_le d (SeqAt.canLay_of_shaped h1)) h3
  simp [pRepr, h1, h2, h4]
end LawS
set_option linter.all false
set_option autoImplicit false
/-! sequences without the two barred patterns split in two (plain, no program in sight) -/
namespace Sep
def Inc (s t : List Int) : Prop := ∀ x ∈ s, ∀ y ∈ t, x < y
def Dec (s t : List Int) : Prop := ∀ x ∈ s, ∀ y ∈ t, y < x
def Bad4 (a b c d : Int) : Prop := (c < a ∧ a < d ∧ d < b) ∨ (b < d ∧ d < a ∧ a < c)
def Pat (l : List Int) : Prop := ∃ a b c d, [a, b, c, d].Sublist l ∧ Bad4 a b c d
theorem Pat.mono {l l' : List Int} (h : Pat l) (s : l.Sublist l') : Pat l' := by
  obtain ⟨a, b, c, d, h1, h2⟩ := h
  exact ⟨a, b, c, d, h1.trans s, h2⟩
theorem pat_neg {l : List Int} (h : Pat (l.map fun x => -x)) : Pat l := by
  obtain ⟨a, b, c, d, h1, h2⟩ := h
  have h3 := h1.map (fun x : Int => -x)
  have e : (l.map fun x : Int => -x).map (fun x => -x) = l := by simp [List.map_map, Function.comp_def]
  rw [e] at h3
  refine ⟨-a, -b, -c, -d, by simpa using h3, ?_⟩
  unfold Bad4 at *
  omega
/-- a pattern over two parts that lie wholly below or above each other lies in one of them -/
theorem pat_append {s t : List Int} (h : Inc s t ∨ Dec s t) (p : Pat (s ++ t)) : Pat s ∨ Pat t := by
  obtain ⟨a, b, c, d, h1, h2⟩ := p
  obtain ⟨l1, l2, e, g1, g2⟩ := List.sublist_append_iff.mp h1
  have lt : ∀ x ∈ l1, ∀ y ∈ l2, (Inc s t → x < y) ∧ (Dec s t → y < x) := fun x hx y hy => ⟨fun i => i x (g1.mem hx) y (g2.mem hy), fun i => i x (g1.mem hx) y (g2.mem hy)⟩
  unfold Bad4 at h2
  match l1, e with
  | [], e => exact .inr ⟨a, b, c, d, by simpa [e] using g2, h2⟩
  | [x], e =>
    simp at e
    obtain ⟨rfl, rfl⟩ := e
    have := lt a (by simp) b (by simp)
    have := lt a (by simp) c (by simp)
    have := lt a (by simp) d (by simp)
    rcases h with h | h <;> simp only [h, true_implies] at * <;> omega
  | [x, y], e =>
    simp at e
    obtain ⟨rfl, rfl, rfl⟩ := e
    have := lt a (by simp) c (by simp)
    have := lt a (by simp) d (by simp)
    have := lt b (by simp) c (by simp)
    have := lt b (by simp) d (by simp)
    rcases h with h | h <;> simp only [h, true_implies] at * <;> omega
  | [x, y, z], e =>
    simp at e
    obtain ⟨rfl, rfl, rfl, rfl⟩ := e
    have := lt a (by simp) d (by simp)
    have := lt b (by simp) d (by simp)
    have := lt c (by simp) d (by simp)
    rcases h with h | h <;> simp only [h, true_implies] at * <;> omega
  | x :: y :: z :: w :: r, e =>
    simp at e
    obtain ⟨rfl, rfl, rfl, rfl, e⟩ := e
    refine .inl ⟨a, b, c, d, ?_, h2⟩
    obtain ⟨e1, e2⟩ := e
    subst e1
    exact g1
def Spl (l : List Int) : Prop := ∃ s t, l = s ++ t ∧ s ≠ [] ∧ t ≠ [] ∧ (Inc s t ∨ Dec s t)
theorem spl_neg {l : List Int} (h : Spl (l.map fun x => -x)) : Spl l := by
  obtain ⟨s, t, e, hs, ht, h⟩ := h
  have e2 : l = s.map (fun x => -x) ++ t.map (fun x => -x) := by
    have := congrArg (List.map fun x : Int => -x) e
    rw [List.map_map, List.map_append] at this
    simpa [Function.comp_def] using this
  refine ⟨_, _, e2, by simpa using hs, by simpa using ht, ?_⟩
  rcases h with h | h
  · refine .inr fun x hx y hy => ?_
    simp at hx hy
    obtain ⟨x', hx, rfl⟩ := hx
    obtain ⟨y', hy, rfl⟩ := hy
    have := h x' hx y' hy
    omega
  · refine .inl fun x hx y hy => ?_
    simp at hx hy
    obtain ⟨x', hx, rfl⟩ := hx
    obtain ⟨y', hy, rfl⟩ := hy
    have := h x' hx y' hy
    omega
/-- the step: the part ahead of the last number splits with the lower half first -/
theorem spl_step {s t : List Int} {x : Int} (hs : s ≠ []) (ht : t ≠ []) (hI : Inc s t) (nd : (s ++ t ++ [x]).Nodup) (np : ¬ Pat (s ++ t ++ [x])) (ih : Spl (s ++ [x])) : Spl (s ++ t ++ [x]) := by
  have nx : ∀ y ∈ s ++ t, y ≠ x := fun y hy e => by
    rw [List.nodup_append] at nd
    exact nd.2.2 y hy x (by simp) e
  by_cases h1 : ∀ y ∈ s, y < x
  · refine ⟨s, t ++ [x], by simp, hs, by simp, .inl fun a ha b hb => ?_⟩
    rcases List.mem_append.mp hb with hb | hb
    · exact hI a ha b hb
    · simp at hb; subst hb; exact h1 a ha
  by_cases h2 : ∀ y ∈ s, x < y
  · have h3 : ∀ y ∈ s ++ t, x < y := fun y hy => by
      obtain ⟨z, hz⟩ := List.exists_mem_of_ne_nil s hs
      rcases List.mem_append.mp hy with hy | hy
      · exact h2 y hy
      · exact Int.lt_trans (h2 z hz) (hI z hz y hy)
    exact ⟨s ++ t, [x], rfl, by simp [hs], by simp, .inr fun a ha b hb => by simp at hb; subst hb; exact h3 a ha⟩
  have h1' : ∃ u ∈ s, x < u := Classical.byContradiction fun h => h1 fun y hy => by
    have := nx y (by simp [hy])
    by_cases q : x < y
    · exact absurd ⟨y, hy, q⟩ h
    · omega
  have h2' : ∃ u ∈ s, u < x := Classical.byContradiction fun h => h2 fun y hy => by
    have := nx y (by simp [hy])
    by_cases q : y < x
    · exact absurd ⟨y, hy, q⟩ h
    · omega
  obtain ⟨u, hu, hxu⟩ := h1'
  obtain ⟨v, hv, hvx⟩ := h2'
  have hxt : ∀ y ∈ t, x < y := fun y hy => Int.lt_trans hxu (hI u hu y hy)
  obtain ⟨p, q, e, hp, hq, h⟩ := ih
  -- q ends in x
  obtain ⟨q', rfl⟩ : ∃ q', q = q' ++ [x] := by
    rcases List.eq_nil_or_concat q with z | ⟨q', z, rfl⟩
    · exact absurd z hq
    · rw [List.concat_eq_append, ← List.append_assoc] at e
      have := (List.append_inj' e (by simp)).2
      simp at this
      exact ⟨q', by rw [this]; simp⟩
  have es : s = p ++ q' := by
    rw [← List.append_assoc] at e
    exact (List.append_inj' e (by simp)).1
  subst es
  rcases h with h | h
  · refine ⟨p, q' ++ t ++ [x], by simp, hp, by simp, .inl fun a ha b hb => ?_⟩
    rcases List.mem_append.mp hb with hb | hb
    · rcases List.mem_append.mp hb with hb | hb
      · exact h a ha b (by simp [hb])
      · exact hI a (by simp [ha]) b hb
    · simp at hb; subst hb; exact h a ha b (by simp)
  · -- p above q' and x: a barred pattern
    have hvq : v ∈ q' := by
      rcases List.mem_append.mp hv with hv | hv
      · have := h v hv x (by simp); omega
      · exact hv
    cases p with
    | nil => exact absurd rfl hp
    | cons a p =>
      cases t with
      | nil => exact absurd rfl ht
      | cons b t =>
        refine absurd ⟨a, v, b, x, ?_, .inr ⟨hvx, h a (by simp) x (by simp), hI a (by simp) b (by simp)⟩⟩ np
        have s1 : [a].Sublist (a :: p) := by simp
        have s2 : [v].Sublist q' := by simpa using hvq
        have s3 : [b].Sublist (b :: t) := by simp
        have := ((s1.append s2).append s3).append (List.Sublist.refl [x])
        simpa using this
theorem spl_of_avoid : ∀ (n : Nat) (l : List Int), l.length = n → l.Nodup → 2 ≤ l.length → ¬ Pat l → Spl l := by
  intro n
  induction n using Nat.strongRecOn with
  | _ n ih =>
    intro l hn nd h2 np
    rcases List.eq_nil_or_concat l with e | ⟨p, x, e⟩
    · subst e; simp at h2
    rw [List.concat_eq_append] at e
    subst e
    have hl : p.length + 1 = n := by simpa using hn
    by_cases h3 : 2 ≤ p.length
    · have ndp : p.Nodup := (List.nodup_append.mp nd).1
      obtain ⟨s, t, rfl, hs, ht, h⟩ := ih p.length (by omega) p rfl ndp h3 fun q => np (q.mono (by simp))
      have ls : 1 ≤ s.length := List.length_pos_iff.mpr hs
      have lt : 1 ≤ t.length := List.length_pos_iff.mpr ht
      have sub : (s ++ [x]).Sublist (s ++ t ++ [x]) := (List.sublist_append_left s t).append (List.Sublist.refl _)
      have l1 : (s ++ [x]).length < n := by simp at hl ⊢; omega
      rcases h with h | h
      · exact spl_step hs ht h nd np (ih _ l1 _ rfl (nd.sublist sub) (by simp; omega) fun q => np (q.mono sub))
      · have nd' : ((s ++ t ++ [x]).map fun z : Int => -z).Nodup := by
          rw [List.nodup_iff_pairwise_ne] at nd ⊢
          exact List.pairwise_map.mpr (nd.imp fun {a b} h e => h (by omega))
        have np' : ¬ Pat ((s ++ t ++ [x]).map fun z : Int => -z) := fun q => np (pat_neg q)
        have em : (s ++ t ++ [x]).map (fun z : Int => -z) = s.map (fun z => -z) ++ t.map (fun z => -z) ++ [-x] := by simp
        rw [em] at nd' np'
        have sub' : (s.map (fun z : Int => -z) ++ [-x]).Sublist (s.map (fun z => -z) ++ t.map (fun z => -z) ++ [-x]) := (List.sublist_append_left _ _).append (List.Sublist.refl _)
        refine spl_neg ?_
        rw [em]
        refine spl_step (by simpa using hs) (by simpa using ht) (fun a ha b hb => ?_) nd' np' (ih _ (by simpa using l1) _ rfl (nd'.sublist sub') (by simp; omega) fun q => np' (q.mono sub'))
        simp at ha hb
        obtain ⟨a', ha, rfl⟩ := ha
        obtain ⟨b', hb, rfl⟩ := hb
        have := h a' ha b' hb
        omega
    · have : p.length = 1 := by simp at h2; omega
      match p, this with
      | [a], _ =>
        have : a ≠ x := by
          intro e
          subst e
          simp at nd
        refine ⟨[a], [x], rfl, by simp, by simp, ?_⟩
        by_cases q : a < x
        · exact .inl fun u hu v hv => by simp at hu hv; subst hu hv; exact q
        · exact .inr fun u hu v hv => by simp at hu hv; subst hu hv; omega

/-! stretches of a sequence -/
def seg (o : List Int) (b e : Nat) : List Int := (o.drop b).take (e - b)
theorem seg_length {o : List Int} {b e : Nat} (h : b ≤ e) (he : e ≤ o.length) : (seg o b e).length = e - b := by
  simp [seg]
  omega
theorem seg_append {o : List Int} {b m e : Nat} (h1 : b ≤ m) (h2 : m ≤ e) : seg o b e = seg o b m ++ seg o m e := by
  unfold seg
  have e1 : e - b = (m - b) + (e - m) := by omega
  rw [e1, List.take_add, List.drop_drop]
  congr 3
  omega
theorem seg_sub (o : List Int) (b e : Nat) : (seg o b e).Sublist o := (List.take_sublist _ _).trans (List.drop_sublist _ _)
instance (s t : List Int) : Decidable (Inc s t) := by unfold Inc; exact inferInstance
instance (s t : List Int) : Decidable (Dec s t) := by unfold Dec; exact inferInstance
theorem lt_of_foldl {y : Int} : ∀ (xs : List Int) (x : Int), xs.foldl max x < y ↔ ∀ z ∈ x :: xs, z < y
  | [], x => by simp
  | a :: xs, x => by
    rw [List.foldl_cons, lt_of_foldl xs (max x a)]
    simp only [List.mem_cons, forall_eq_or_imp]
    constructor
    · rintro ⟨h1, h2⟩
      exact ⟨by omega, by omega, h2⟩
    · rintro ⟨h1, h2, h3⟩
      exact ⟨by omega, h3⟩
theorem foldl_lt {y : Int} : ∀ (xs : List Int) (x : Int), y < xs.foldl min x ↔ ∀ z ∈ x :: xs, y < z
  | [], x => by simp
  | a :: xs, x => by
    rw [List.foldl_cons, foldl_lt xs (min x a)]
    simp only [List.mem_cons, forall_eq_or_imp]
    constructor
    · rintro ⟨h1, h2⟩
      exact ⟨by omega, by omega, h2⟩
    · rintro ⟨h1, h2, h3⟩
      exact ⟨by omega, h3⟩
theorem inc_iff {x y : Int} {xs ys : List Int} : xs.foldl max x < ys.foldl min y ↔ Inc (x :: xs) (y :: ys) := by
  rw [lt_of_foldl]
  constructor
  · intro h a ha b hb
    exact (foldl_lt ys y).mp (h a ha) b hb
  · intro h a ha
    exact (foldl_lt ys y).mpr fun b hb => h a ha b hb
theorem dec_iff {x y : Int} {xs ys : List Int} : ys.foldl max y < xs.foldl min x ↔ Dec (x :: xs) (y :: ys) := by
  rw [inc_iff]
  exact ⟨fun h a ha b hb => h b hb a ha, fun h a ha b hb => h b hb a ha⟩
/-! ranks -/
def rk (ns : List Int) : List Nat := ns.map fun x => (ns.filter fun y => decide (y < x)).length
theorem rk4 {a b c d : Int} (hn : [a, b, c, d].Nodup) : (rk [a, b, c, d] = [1, 3, 0, 2] ∨ rk [a, b, c, d] = [2, 0, 3, 1]) ↔ Bad4 a b c d := by
  simp only [List.nodup_cons, List.mem_cons, List.not_mem_nil, or_false, not_or, List.nodup_nil, and_true, not_false_eq_true] at hn
  obtain ⟨⟨n1, n2, n3⟩, ⟨n4, n5⟩, n6⟩ := hn
  have ii : ∀ x : Int, ¬ x < x := fun x => by omega
  unfold Bad4
  rcases Int.lt_or_gt_of_ne n1 with h1 | h1 <;> rcases Int.lt_or_gt_of_ne n2 with h2 | h2 <;> rcases Int.lt_or_gt_of_ne n3 with h3 | h3 <;> rcases Int.lt_or_gt_of_ne n4 with h4 | h4 <;> rcases Int.lt_or_gt_of_ne n5 with h5 | h5 <;> rcases Int.lt_or_gt_of_ne n6 with h6 | h6 <;>
    simp [rk, List.filter, h1, h2, h3, h4, h5, h6, Int.not_lt.mpr (Int.le_of_lt h1), Int.not_lt.mpr (Int.le_of_lt h2), Int.not_lt.mpr (Int.le_of_lt h3), Int.not_lt.mpr (Int.le_of_lt h4), Int.not_lt.mpr (Int.le_of_lt h5), Int.not_lt.mpr (Int.le_of_lt h6)] <;> omega
/-! four places -/
abbrev Quad := Nat × Nat × Nat × Nat
def lt4 (p q : Quad) : Bool := decide (p.1 < q.1 ∨ (p.1 = q.1 ∧ (p.2.1 < q.2.1 ∨ (p.2.1 = q.2.1 ∧ (p.2.2.1 < q.2.2.1 ∨ (p.2.2.1 = q.2.2.1 ∧ p.2.2.2 < q.2.2.2))))))
theorem lt4_antisymm {p q : Quad} (h1 : lt4 p q = false) (h2 : lt4 q p = false) : p = q := by
  obtain ⟨a, b, c, d⟩ := p
  obtain ⟨a', b', c', d'⟩ := q
  simp [lt4] at h1 h2
  simp
  omega
def val4 (o : List Int) (q : Quad) : List Int := [o.getD q.1 0, o.getD q.2.1 0, o.getD q.2.2.1 0, o.getD q.2.2.2 0]
def isBar (o : List Int) (q : Quad) : Bool := decide (rk (val4 o q) = [1, 3, 0, 2] ∨ rk (val4 o q) = [2, 0, 3, 1])
def Up (n : Nat) (q : Quad) : Prop := q.1 < q.2.1 ∧ q.2.1 < q.2.2.1 ∧ q.2.2.1 < q.2.2.2 ∧ q.2.2.2 < n
theorem firstR {α : Type} {g : Nat → Option α} {r : α} : ∀ {m a : Nat}, (List.range' a m).findSome? g = some r → ∃ x, a ≤ x ∧ x < a + m ∧ g x = some r ∧ ∀ y, a ≤ y → y < x → g y = none
  | 0, a, h => by simp at h
  | m + 1, a, h => by
    rw [List.range'_succ, List.findSome?_cons] at h
    cases e : g a with
    | some r' =>
      rw [e] at h
      cases h
      exact ⟨a, Nat.le_refl _, by omega, e, fun y h1 h2 => by omega⟩
    | none =>
      rw [e] at h
      obtain ⟨x, h1, h2, h3, h4⟩ := firstR (m := m) (a := a + 1) h
      refine ⟨x, by omega, by omega, h3, fun y h5 h6 => ?_⟩
      by_cases hy : y = a
      · rw [hy]; exact e
      · exact h4 y (by omega) h6
theorem noneR {α : Type} {g : Nat → Option α} {m a : Nat} (h : (List.range' a m).findSome? g = none) (y : Nat) (h1 : a ≤ y) (h2 : y < a + m) : g y = none := by
  rw [List.findSome?_eq_none_iff] at h
  exact h y (by simp [List.mem_range']; exact ⟨y - a, by omega, by omega⟩)
def fnd (n a : Nat) (g : Nat → Option Quad) : Option Quad := (List.range' a (n - a)).findSome? g
def fnd4 (o : List Int) (n i j k : Nat) : Option Quad := fnd n (k + 1) fun l => if isBar o (i, j, k, l) = true then some (i, j, k, l) else none
def fnd3 (o : List Int) (n i j : Nat) : Option Quad := fnd n (j + 1) fun k => fnd4 o n i j k
def fnd2 (o : List Int) (n i : Nat) : Option Quad := fnd n (i + 1) fun j => fnd3 o n i j
def fnd1 (o : List Int) (n : Nat) : Option Quad := fnd n 0 fun i => fnd2 o n i
theorem fnd4_none {o : List Int} {n i j k : Nat} (h : fnd4 o n i j k = none) (l : Nat) (h1 : k < l) (h2 : l < n) : isBar o (i, j, k, l) = false := by
  have := noneR h l (by omega) (by omega)
  simpa using this
theorem fnd3_none {o : List Int} {n i j : Nat} (h : fnd3 o n i j = none) (k l : Nat) (h0 : j < k) (h1 : k < l) (h2 : l < n) : isBar o (i, j, k, l) = false := fnd4_none (noneR h k (by omega) (by omega)) l h1 h2
theorem fnd2_none {o : List Int} {n i : Nat} (h : fnd2 o n i = none) (j k l : Nat) (h3 : i < j) (h0 : j < k) (h1 : k < l) (h2 : l < n) : isBar o (i, j, k, l) = false := fnd3_none (noneR h j (by omega) (by omega)) k l h0 h1 h2
theorem fnd1_none {o : List Int} {n : Nat} (h : fnd1 o n = none) (q : Quad) (u : Up n q) : isBar o q = false := by
  obtain ⟨i, j, k, l⟩ := q
  obtain ⟨u1, u2, u3, u4⟩ := u
  simp only at u1 u2 u3 u4
  exact fnd2_none (noneR h i (by omega) (by omega)) j k l u1 u2 u3 u4
theorem fnd1_some {o : List Int} {n : Nat} {q : Quad} (h : fnd1 o n = some q) : Up n q ∧ isBar o q = true ∧ ∀ q', Up n q' → isBar o q' = true → lt4 q' q = false := by
  obtain ⟨i, i1, i2, e1, n1⟩ := firstR h
  obtain ⟨j, j1, j2, e2, n2⟩ := firstR e1
  obtain ⟨k, k1, k2, e3, n3⟩ := firstR e2
  obtain ⟨l, l1, l2, e4, n4⟩ := firstR e3
  split at e4
  · rename_i hb
    cases e4
    refine ⟨⟨by simp; omega, by simp; omega, by simp; omega, by simp; omega⟩, hb, fun ⟨i', j', k', l'⟩ ⟨u1, u2, u3, u4⟩ hb' => ?_⟩
    simp only at u1 u2 u3 u4
    cases hl : lt4 (i', j', k', l') (i, j, k, l) with
    | false => rfl
    | true =>
      simp only [lt4, decide_eq_true_eq] at hl
      have bad : isBar o (i', j', k', l') = false := by
        rcases hl with hl | ⟨rfl, hl | ⟨rfl, hl | ⟨rfl, hl⟩⟩⟩
        · exact fnd2_none (n1 i' (by omega) hl) j' k' l' u1 u2 u3 u4
        · exact fnd3_none (n2 j' (by omega) hl) k' l' u2 u3 u4
        · exact fnd4_none (n3 k' (by omega) hl) l' u3 u4
        · have := n4 l' (by omega) hl
          simpa using this
      rw [bad] at hb'
      cases hb'
  · cases e4
/-- all of them, the last place first, and the least -/
def all4 (o : List Int) (n : Nat) : List Quad := (List.range n).flatMap fun l => (List.range l).flatMap fun k => (List.range k).flatMap fun j => (List.range j).flatMap fun i => if isBar o (i, j, k, l) = true then [(i, j, k, l)] else []
theorem mem_all4 {o : List Int} {n : Nat} {q : Quad} : q ∈ all4 o n ↔ Up n q ∧ isBar o q = true := by
  obtain ⟨i, j, k, l⟩ := q
  simp only [all4, List.mem_flatMap, List.mem_range, Up]
  constructor
  · rintro ⟨l', h1, k', h2, j', h3, i', h4, h5⟩
    split at h5
    · rename_i hb
      simp only [List.mem_singleton, Prod.mk.injEq] at h5
      obtain ⟨rfl, rfl, rfl, rfl⟩ := h5
      exact ⟨⟨h4, h3, h2, h1⟩, hb⟩
    · simp at h5
  · rintro ⟨⟨h1, h2, h3, h4⟩, hb⟩
    exact ⟨l, h4, k, h3, j, h2, i, h1, by rw [if_pos hb]; simp⟩
def least (x : Quad) (xs : List Quad) : Quad := xs.foldl (fun a y => if lt4 y a = true then y else a) x
theorem lt4_trans {p q r : Quad} (h1 : lt4 p q = false) (h2 : lt4 q r = false) : lt4 p r = false := by
  obtain ⟨a, b, c, d⟩ := p
  obtain ⟨a', b', c', d'⟩ := q
  obtain ⟨a2, b2, c2, d2⟩ := r
  simp only [lt4, decide_eq_false_iff_not] at *
  omega
theorem least_spec : ∀ (xs : List Quad) (x : Quad), least x xs ∈ x :: xs ∧ ∀ y ∈ x :: xs, lt4 y (least x xs) = false
  | [], x => by simp [least, lt4]
  | a :: xs, x => by
    have ih := least_spec xs (if lt4 a x = true then a else x)
    have e : least x (a :: xs) = least (if lt4 a x = true then a else x) xs := rfl
    rw [e]
    refine ⟨?_, fun y hy => ?_⟩
    · rcases List.mem_cons.mp ih.1 with h | h
      · rw [h]
        split <;> simp
      · simp [h]
    · have hx := ih.2 _ (List.mem_cons_self)
      by_cases c : lt4 a x = true
      · rw [if_pos c] at hx ih ⊢
        rcases List.mem_cons.mp hy with rfl | hy
        · refine lt4_trans ?_ hx
          simp only [lt4, decide_eq_true_eq] at c
          simp only [lt4, decide_eq_false_iff_not]
          omega
        · exact ih.2 y hy
      · rw [if_neg c] at hx ih ⊢
        rcases List.mem_cons.mp hy with rfl | hy
        · exact hx
        · rcases List.mem_cons.mp hy with rfl | hy
          · refine lt4_trans ?_ hx
            simpa using c
          · exact ih.2 y (by simp [hy])
/-- the first one found is the least of all -/
theorem first_least (o : List Int) (n : Nat) : fnd1 o n = match all4 o n with
    | [] => none
    | x :: xs => some (least x xs) := by
  cases h : fnd1 o n with
  | none =>
    cases e : all4 o n with
    | nil => rfl
    | cons x xs =>
      have := mem_all4.mp (show x ∈ all4 o n by rw [e]; simp)
      rw [fnd1_none h x this.1] at this
      cases this.2
  | some q =>
    obtain ⟨h1, h2, h3⟩ := fnd1_some h
    cases e : all4 o n with
    | nil =>
      have := mem_all4.mpr ⟨h1, h2⟩
      rw [e] at this
      simp at this
    | cons x xs =>
      have m := mem_all4.mpr ⟨h1, h2⟩
      rw [e] at m
      obtain ⟨l1, l2⟩ := least_spec xs x
      have l3 := mem_all4.mp (show least x xs ∈ all4 o n by rw [e]; exact l1)
      show some q = some (least x xs)
      rw [lt4_antisymm (h3 _ l3.1 l3.2) (l2 q m)]
theorem pat_iff {o : List Int} (nd : o.Nodup) : Pat o ↔ ∃ q, Up o.length q ∧ isBar o q = true := by
  have at_ : ∀ i (h : i < o.length), o.getD i 0 = o[i] := fun i h => by simp [h]
  have ndq : ∀ i j k l, i < j → j < k → k < l → l < o.length → [o.getD i 0, o.getD j 0, o.getD k 0, o.getD l 0].Nodup := by
    intro i j k l h1 h2 h3 h4
    have inj : ∀ x y, x < o.length → y < o.length → x ≠ y → o.getD x 0 ≠ o.getD y 0 := fun x y hx hy hn e => by
      rw [at_ x hx, at_ y hy] at e
      exact hn ((List.getElem_inj nd).mp e)
    simp only [List.nodup_cons, List.mem_cons, List.not_mem_nil, or_false, not_or, List.nodup_nil, and_true, not_false_eq_true]
    exact ⟨⟨inj _ _ (by omega) (by omega) (by omega), inj _ _ (by omega) (by omega) (by omega), inj _ _ (by omega) (by omega) (by omega)⟩, ⟨inj _ _ (by omega) (by omega) (by omega), inj _ _ (by omega) (by omega) (by omega)⟩, inj _ _ (by omega) (by omega) (by omega)⟩
  constructor
  · rintro ⟨a, b, c, d, h1, h2⟩
    obtain ⟨is, e, hp⟩ := List.sublist_eq_map_getElem h1
    match is, e, hp with
    | [i, j, k, l], e, hp =>
      simp only [List.map_cons, List.map_nil, List.cons.injEq, and_true] at e
      obtain ⟨rfl, rfl, rfl, rfl⟩ := e
      simp at hp
      have l1 : i.val < j.val := hp.1.1
      have l2 : j.val < k.val := hp.2.1.1
      have l3 : k.val < l.val := hp.2.2
      refine ⟨(i.val, j.val, k.val, l.val), ⟨l1, l2, l3, l.isLt⟩, ?_⟩
      unfold isBar val4
      refine decide_eq_true ((rk4 (ndq _ _ _ _ l1 l2 l3 l.isLt)).mpr ?_)
      simpa [at_] using h2
    | [], e, _ => simp at e
    | [_], e, _ => simp at e
    | [_, _], e, _ => simp at e
    | [_, _, _], e, _ => simp at e
    | _ :: _ :: _ :: _ :: _ :: _, e, _ => simp at e
  · rintro ⟨⟨i, j, k, l⟩, ⟨u1, u2, u3, u4⟩, hb⟩
    simp only at u1 u2 u3 u4
    unfold isBar val4 at hb
    have hb := (rk4 (ndq i j k l u1 u2 u3 u4)).mp (of_decide_eq_true hb)
    refine ⟨_, _, _, _, ?_, hb⟩
    have hs := List.map_getElem_sublist (l := o) (is := [⟨i, by omega⟩, ⟨j, by omega⟩, ⟨k, by omega⟩, ⟨l, u4⟩]) (by simp; omega)
    simp only [List.map_cons, List.map_nil] at hs
    rw [at_ i (by omega), at_ j (by omega), at_ k (by omega), at_ l u4]
    exact hs
/-! the tree, or none: the first split -/
section
variable {α : Type} (node : Bool → α → α → α) (leaf : Nat → α)
def wd (s t : List Int) : Option Bool := if Inc s t then some true else if Dec s t then some false else none
def jn (w : Bool) (a b : Option α) : Option α := a.bind fun x => b.map fun y => node w x y
def tr (o : List Int) : Nat → Nat → Nat → Option α
  | 0, _, _ => none
  | n + 1, b, e => if e = b + 1 then some (leaf b) else ((List.range' (b + 1) (e - (b + 1))).findSome? fun m => (wd (seg o b m) (seg o m e)).map fun w => jn node w (tr o n b m) (tr o n m e)).getD none
theorem short_pat {l : List Int} (h : l.length < 4) : ¬ Pat l := fun ⟨a, b, c, d, h1, _⟩ => by
  have := h1.length_le
  simp at this
  omega
theorem tr_none {o : List Int} (nd : o.Nodup) : ∀ (n b e : Nat), b < e → e ≤ o.length → e - b ≤ n → (tr node leaf o n b e = none ↔ Pat (seg o b e))
  | 0, b, e, h1, h2, h3 => by omega
  | n + 1, b, e, h1, h2, h3 => by
    unfold tr
    by_cases h : e = b + 1
    · rw [if_pos h]
      constructor
      · intro z; cases z
      · intro z
        exact absurd z (short_pat (by rw [seg_length (by omega) h2]; omega))
    · rw [if_neg h]
      cases f : (List.range' (b + 1) (e - (b + 1))).findSome? fun m => (wd (seg o b m) (seg o m e)).map fun w => jn node w (tr node leaf o n b m) (tr node leaf o n m e) with
      | none =>
        refine ⟨fun _ => Classical.byContradiction fun np => ?_, fun _ => rfl⟩
        obtain ⟨s, t, est, hs, ht, hw⟩ := spl_of_avoid _ (seg o b e) rfl (nd.sublist (seg_sub o b e)) (by rw [seg_length (by omega) h2]; omega) np
        have ls : 1 ≤ s.length := List.length_pos_iff.mpr hs
        have lt : 1 ≤ t.length := List.length_pos_iff.mpr ht
        have ll : s.length + t.length = e - b := by rw [← List.length_append, ← est, seg_length (by omega) h2]
        have e2 := seg_append (o := o) (b := b) (m := b + s.length) (e := e) (by omega) (by omega)
        rw [est] at e2
        obtain ⟨q1, q2⟩ := List.append_inj e2 (by rw [seg_length (by omega) (by omega)]; omega)
        have z := noneR f (b + s.length) (by omega) (by omega)
        rw [← q1, ← q2] at z
        have w : wd s t ≠ none := by
          unfold wd
          rcases hw with hw | hw
          · rw [if_pos hw]; simp
          · by_cases c : Inc s t
            · rw [if_pos c]; simp
            · rw [if_neg c, if_pos hw]; simp
        cases q : wd s t with
        | none => exact w q
        | some v => rw [q] at z; cases z
      | some r =>
        obtain ⟨m, m1, m2, em, _⟩ := firstR f
        cases q : wd (seg o b m) (seg o m e) with
        | none => rw [q] at em; cases em
        | some v =>
          rw [q] at em
          have em := Option.some.inj em
          have hw : Inc (seg o b m) (seg o m e) ∨ Dec (seg o b m) (seg o m e) := by
            unfold wd at q
            split at q
            · exact .inl (by assumption)
            · split at q
              · exact .inr (by assumption)
              · cases q
          have i1 := tr_none nd n b m (by omega) (by omega) (by omega)
          have i2 := tr_none nd n m e (by omega) (by omega) (by omega)
          have ea := seg_append (o := o) (b := b) (m := m) (e := e) (by omega) (by omega)
          have pp : Pat (seg o b e) ↔ Pat (seg o b m) ∨ Pat (seg o m e) := by
            rw [ea]
            exact ⟨pat_append hw, fun z => z.elim (fun z => z.mono (List.sublist_append_left _ _)) fun z => z.mono (List.sublist_append_right _ _)⟩
          show r = none ↔ _
          rw [pp, ← i1, ← i2, ← em]
          cases tr node leaf o n b m with
          | none => simp [jn]
          | some x =>
            cases tr node leaf o n m e with
            | none => simp [jn]
            | some y => simp [jn]
end
end Sep
set_option linter.all false
set_option autoImplicit false
/-! the evaluators of law_k57_bars_of_all_orders (printed by pr2.py) -/
namespace L57
open PySem PySem.Spec L2 Ev
open PyProof.Rows hiding St
noncomputable section
def tblL : List (Str × Str × Bool) := []
def tbl : Str → Str → Option Bool := tblF tblL
def c_MOST_PLACES : PyData := .int 8
def c_BARS : PyData := .tuple [.tuple [.int 1, .int 3, .int 0, .int 2], .tuple [.int 2, .int 0, .int 3, .int 1]]
def conL : List (Str × PyData) := [("MOST_PLACES", c_MOST_PLACES), ("BARS", c_BARS)]
/-- is_integer(thing); slots: 0 thing -/
def ev_is_integer : EvS := sRet (evAnd (evPm (pIsi "int") [.pl 0]) (evNot (evPm (pIsi "bool") [.pl 0])))
def F_is_integer : FnV := mkF 0 ev_is_integer
/-- word_between(order, begin, middle, end); slots: 0 order, 1 begin, 2 middle, 3 end, 4 first, 5 second -/
def ev_word_between : EvS := sSeq (sAsg 4 (evPm pSl11 [.pl 0, .ex (evInt (evVar 1)), .pl 2])) (sSeq (sAsg 5 (evPm pSl11 [.pl 0, .ex (evInt (evVar 2)), .pl 3])) (sSeq (sIf (tvOf (evPm (pm2 fLt) [.ex (evPm (pBest PySem.W.maxD) [.pl 4]), .ex (evPm (pBest PySem.W.minD) [.pl 5])])) (sRet (evC (.str "keep"))) (sNil)) (sRet (evIf (tvOf (evPm (pm2 fGt) [.ex (evPm (pBest PySem.W.minD) [.pl 4]), .ex (evPm (pBest PySem.W.maxD) [.pl 5])])) (evC (.str "turn")) (evC .none)))))
def F_word_between : FnV := mkF 2 ev_word_between
/-- stands_so(numbers, wanted); slots: 0 numbers, 1 wanted, 2 places, 3 number -/
def ev_stands_so : EvS := sSeq (sAsg 2 (evPm pSorted [.pl 0])) (sRet (evPm (pm2 fEqX) [.ex (evPm pTuple [.ex (evLc [.pl 0] kSeq (.nm 3) [3] (tvYes) (evMeth isLst pIndex (.pl 2) [.pl 3]))]), .pl 1]))
def F_stands_so : FnV := mkF 2 ev_stands_so
/-- _law_feed(_law_script, _law_k); slots: 0 _law_script, 1 _law_k, 2 _law_cell -/
def ev__law_feed : EvS := sSeq (sAsg 2 (evPm (pm2 fAdd) [.ex (evPm (pm2 fMul) [.ex (evC (.int 977)), .pl 1]), .ex (evPm pSum [.ex (evPm pSl01 [.pl 0, .ex (evC (.int 1))])])])) (sSeq (sIf (tvOf (evPm (pm2 fLt) [.pl 1, .ex (evPm pLen [.pl 0])])) (sAsg 2 (evPm (pm2 fIx) [.pl 0, .pl 1])) (sNil)) (sRet (evPm pLst ([evPm pMax2 [.ex (evC (.int 0)), .ex (evPm (pm2 fSub) [.pl 2, .ex (evPm (pm2 fPow) [.ex (evC (.int 10)), .ex (evC (.int 18))])])], evPm (pm2 fMod) [.ex (evPm pInt [.ex (evPm (pm2 fAdd) [.ex (evPm (pm2 fMul) [.pl 2, .ex (evC (.int 19))]), .ex (evPm (pm2 fMul) [.ex (evC (.int 7)), .pl 1])])]), .ex (evPm (pm2 fAdd) [.ex (evPm (pm2 fPow) [.ex (evC (.int 10)), .ex (evC (.int 39))]), .ex (evC (.int 23))])], evC (.int 0)].map .ex))))
def F__law_feed : FnV := mkF 1 ev__law_feed
/-- _law_draw(_law_feed_here, _law_many); slots: 0 _law_feed_here, 1 _law_many, 2 _law_rest, 3 _law_got, 4 _law_stir -/
def ev__law_draw : EvS := sSeq (sIf (tvOf (evPm (pm2 fGt) [.ex (evPm (pm2 fIx) [.pl 0, .ex (evC (.int 0))]), .ex (evC (.int 0))])) (sSeq (sAsg 2 (evPm (pm2 fDiv) [.ex (evPm (pm2 fIx) [.pl 0, .ex (evC (.int 0))]), .pl 1])) (sSeq (sAsg 3 (evPm (pm2 fSub) [.ex (evPm (pm2 fIx) [.pl 0, .ex (evC (.int 0))]), .ex (evPm (pm2 fMul) [.pl 2, .pl 1])])) (sSeq (sSet 0 (evVar 2) (evC (.int 0))) (sRet (evMv 3))))) (sNil)) (sSeq (sSet 0 (evPm (pm2 fAdd) [.ex (evPm (pm2 fIx) [.pl 0, .ex (evC (.int 2))]), .ex (evC (.int 1))]) (evC (.int 2))) (sSeq (sAsg 4 (evPm (pm2 fAdd) [.ex (evPm (pm2 fIx) [.pl 0, .ex (evC (.int 1))]), .ex (evPm (pm2 fMul) [.ex (evC (.int 6700417)), .ex (evPm (pm2 fIx) [.pl 0, .ex (evC (.int 2))])])])) (sSeq (sAsg 4 (evPm (pm2 fMod) [.ex (evPm pInt [.ex (evPm (pm2 fAdd) [.ex (evPm (pm2 fMul) [.ex (evPm (pm2 fMul) [.pl 4, .pl 4]), .pl 4]), .ex (evPm (pm2 fMul) [.ex (evC (.int 15485863)), .ex (evPm (pm2 fIx) [.pl 0, .ex (evC (.int 2))])])])]), .ex (evPm (pm2 fAdd) [.ex (evPm (pm2 fPow) [.ex (evC (.int 10)), .ex (evC (.int 43))]), .ex (evC (.int 57))])])) (sSeq (sAsg 4 (evPm (pm2 fMod) [.ex (evPm pInt [.ex (evPm (pm2 fAdd) [.ex (evPm (pm2 fMul) [.pl 4, .pl 4]), .ex (evC (.int 32452843))])]), .ex (evPm (pm2 fAdd) [.ex (evPm (pm2 fPow) [.ex (evC (.int 10)), .ex (evC (.int 38))]), .ex (evC (.int 133))])])) (sRet (evPm (pm2 fMod) [.ex (evPm pInt [.ex (evPm (pm2 fDiv) [.pl 4, .ex (evPm (pm2 fPow) [.ex (evC (.int 10)), .ex (evC (.int 9))])])]), .pl 1]))))))
def F__law_draw : FnV := mkF 3 ev__law_draw
def b__law_numbered_1 : EvS := sAsg 5 (evPm (pm2 fMul) [.pl 5, .pl 6])
def b__law_numbered_2 : EvS := sSeq (sAsg 5 (evC (.int 1))) (sSeq (evFor [.ex (evC (.int 1)), .pl 4] kRange2 (.nm 6) (b__law_numbered_1)) (sSeq (sAsg 7 (evPm (pm2 fDiv) [.pl 1, .pl 5])) (sSeq (sAsg 1 (evPm (pm2 fSub) [.pl 1, .ex (evPm (pm2 fMul) [.pl 7, .pl 5])])) (sEx (evMut 3 [evMut 2 [evVar 7] mPopAt] mAppend)))))
/-- _law_numbered(_law_many, _law_number); slots: 0 _law_many, 1 _law_number, 2 _law_pool, 3 _law_got, 4 _law_left, 5 _law_share, 6 _law_factor, 7 _law_at -/
def ev__law_numbered : EvS := sSeq (sPar [.nm 2, .nm 3] [evPm pLRg1 [.pl 0], evPm pLst ([].map .ex)]) (sSeq (evFor [.pl 0, .ex (evC (.int 0)), .ex (evPm (pm1 fNeg) [.ex (evC (.int 1))])] kRange3 (.nm 4) (b__law_numbered_2)) (sRet (evPm pTuple [.pl 3])))
def F__law_numbered : FnV := mkF 6 ev__law_numbered
def e__law_stands_1 : Ev := evPm pLen [.ex (evLc [.pl 0] kSeq (.nm 1) [1] (tvOf (evPm (pm2 fLt) [.pl 1, .pl 2])) (evVar 1))]
/-- _law_stands(_law_numbers); slots: 0 _law_numbers, 1 _law_other, 2 _law_number -/
def ev__law_stands : EvS := sRet (evLc [.pl 0] kSeq (.nm 2) [2] (tvYes) (e__law_stands_1))
def F__law_stands : FnV := mkF 2 ev__law_stands
/-- is_order(thing); slots: 0 thing, 1 number -/
def ev_is_order : EvS := sSeq (sIf (tvOr (tvNot (tvOf (evPm (pIsi "tuple") [.pl 0]))) (tvNot (tvOf (evCh (fun i j => decide (i ≤ j)) (fun i j => decide (i ≤ j)) (evC (.int 1)) (evPm pLen [.pl 0]) (evC c_MOST_PLACES))))) (sRet (evC (.bool false))) (sNil)) (sRet (evAnd (evPm pAll [.ex (evLc [.pl 0] kSeq (.nm 1) [1] (tvYes) (evCall F_is_integer [.pl 1]))]) (evPm (pm2 fEqX) [.ex (evPm pSorted [.ex (evPm pList [.pl 0])]), .ex (evPm pLRg1 [.ex (evPm pLen [.pl 0])])])))
def F_is_order : FnV := mkF 1 ev_is_order
def b_bar_1 : EvS := sSeq (sAsg 6 (evPm pTup ([evVar 2, evVar 3, evVar 4, evVar 5].map .ex))) (sSeq (sAsg 7 (evLc [.pl 6] kSeq (.nm 8) [8] (tvYes) (evPm (pm2 fIx) [.pl 0, .pl 8]))) (sIf (tvOf (evPm pAny [.ex (evLc [.ex (evC c_BARS)] kSeq (.nm 9) [9] (tvYes) (evCall F_stands_so [.pl 7, .pl 9]))])) (sRet (evMv 6)) (sNil)))
def b_bar_2 : EvS := evFor [.ex (evPm (pm2 fAdd) [.pl 4, .ex (evC (.int 1))]), .pl 1] kRange2 (.nm 5) (b_bar_1)
def b_bar_3 : EvS := evFor [.ex (evPm (pm2 fAdd) [.pl 3, .ex (evC (.int 1))]), .pl 1] kRange2 (.nm 4) (b_bar_2)
def b_bar_4 : EvS := evFor [.ex (evPm (pm2 fAdd) [.pl 2, .ex (evC (.int 1))]), .pl 1] kRange2 (.nm 3) (b_bar_3)
/-- bar(order); slots: 0 order, 1 many, 2 one, 3 two, 4 third, 5 last, 6 places, 7 numbers, 8 place, 9 told -/
def ev_bar : EvS := sSeq (sAsg 1 (evPm pLen [.pl 0])) (sSeq (evFor [.pl 1] kRange1 (.nm 2) (b_bar_4)) (sRet (evC .none)))
def F_bar : FnV := mkF 9 ev_bar
/-- _law_one(_law_feed_here, _law_things); slots: 0 _law_feed_here, 1 _law_things -/
def ev__law_one : EvS := sRet (evPm (pm2 fIx) [.pl 1, .ex (evCall F__law_draw [.pl 0, .ex (evPm pLen [.pl 1])])])
def F__law_one : FnV := mkF 0 ev__law_one
def b__law_bar_1 : EvS := sSeq (sAsg 6 (evPm pTup ([evVar 5, evVar 4, evVar 3, evVar 2].map .ex))) (sIf (tvOf (evPm (pm2 (fInX false)) [.ex (evCall F__law_stands [.ex (evLc [.pl 6] kSeq (.nm 7) [7] (tvYes) (evPm (pm2 fIx) [.pl 0, .pl 7]))]), .ex (evPm pLst ([evPm pLst ([evC (.int 1), evC (.int 3), evC (.int 0), evC (.int 2)].map .ex), evPm pLst ([evC (.int 2), evC (.int 0), evC (.int 3), evC (.int 1)].map .ex)].map .ex))])) (sEx (evMut 1 [evVar 6] mAppend)) (sNil))
def b__law_bar_2 : EvS := evFor [.pl 4] kRange1 (.nm 5) (b__law_bar_1)
def b__law_bar_3 : EvS := evFor [.pl 3] kRange1 (.nm 4) (b__law_bar_2)
def b__law_bar_4 : EvS := evFor [.pl 2] kRange1 (.nm 3) (b__law_bar_3)
/-- _law_bar(_law_order); slots: 0 _law_order, 1 _law_found, 2 _law_last, 3 _law_third, 4 _law_two, 5 _law_one_here, 6 _law_places, 7 _law_at -/
def ev__law_bar : EvS := sSeq (sAsg 1 (evPm pLst ([].map .ex))) (sSeq (evFor [.ex (evPm pLen [.pl 0])] kRange1 (.nm 2) (b__law_bar_4)) (sRet (evIf (tvOf (evPm (pm2 fNeX) [.pl 1, .ex (evPm pLst ([].map .ex))])) (evPm (pBest PySem.W.minD) [.pl 1]) (evC .none))))
def F__law_bar : FnV := mkF 7 ev__law_bar
/-- need_order(order); slots: 0 order -/
def ev_need_order : EvS := sIf (tvNot (tvOf (evCall F_is_order [.pl 0]))) (sRaise "BadOrder") (sNil)
def F_need_order : FnV := mkF 0 ev_need_order
/-- bar_of(order); slots: 0 order -/
def ev_bar_of : EvS := sSeq (sEx (evCall F_need_order [.pl 0])) (sRet (evCall F_bar [.pl 0]))
def F_bar_of : FnV := mkF 0 ev_bar_of
def b_tree_between_1 (Ftree_between : FnV) : EvS := sSeq (sAsg 4 (evCall F_word_between [.pl 0, .pl 1, .pl 3, .pl 2])) (sIf (tvOf (evPm (pm2 fIsN) [.pl 4, .ex (evC .none)])) (sSeq (sAsg 5 (evCall Ftree_between [.pl 0, .pl 1, .pl 3])) (sSeq (sAsg 6 (evCall Ftree_between [.pl 0, .pl 3, .pl 2])) (sRet (evIf (tvOr (tvOf (evPm (pm2 fIs) [.pl 5, .ex (evC .none)])) (tvOf (evPm (pm2 fIs) [.pl 6, .ex (evC .none)]))) (evC .none) (evPm pTup ([evVar 4, evVar 5, evVar 6].map .ex)))))) (sNil))
/-- tree_between(order, begin, end); slots: 0 order, 1 begin, 2 end, 3 middle, 4 word, 5 first, 6 second -/
def ev_tree_between (Ftree_between : FnV) : EvS := sSeq (sIf (tvOf (evPm (pm2 fEqX) [.ex (evPm (pm2 fSub) [.pl 2, .pl 1]), .ex (evC (.int 1))])) (sRet (evVar 1)) (sNil)) (sSeq (evFor [.ex (evPm (pm2 fAdd) [.pl 1, .ex (evC (.int 1))]), .pl 2] kRange2 (.nm 3) (b_tree_between_1 Ftree_between)) (sRet (evC .none)))
def F_tree_between : Nat → FnV
  | 0 => neverF
  | n + 1 => mkF 4 (ev_tree_between (F_tree_between n))
theorem F_tree_between_s (n : Nat) : F_tree_between (n + 1) = mkF 4 (ev_tree_between (F_tree_between n)) := by rw [F_tree_between]
/-- tree_of(order); slots: 0 order -/
def ev_tree_of : EvS := sRet (evCall (F_tree_between 9) [.pl 0, .ex (evC (.int 0)), .ex (evPm pLen [.pl 0])])
def F_tree_of : FnV := mkF 0 ev_tree_of
/-- split_tree(order); slots: 0 order -/
def ev_split_tree : EvS := sSeq (sEx (evCall F_need_order [.pl 0])) (sRet (evCall F_tree_of [.pl 0]))
def F_split_tree : FnV := mkF 0 ev_split_tree
/-- _law_is_right(_law_order); slots: 0 _law_order, 1 _law_due -/
def ev__law_is_right : EvS := sSeq (sAsg 1 (evCall F__law_bar [.pl 0])) (sSeq (sIf (tvOr (tvOf (evPm (pm2 fNeX) [.ex (evPm pRepr [.ex (evCall F_bar_of [.pl 0])]), .ex (evPm pRepr [.pl 1])])) (tvOf (evPm (pm2 fNeX) [.ex (evPm pRepr [.ex (evCall F_bar_of [.pl 0])]), .ex (evPm pRepr [.pl 1])]))) (sRet (evC (.bool false))) (sNil)) (sRet (evPm (pm2 fEqX) [.ex (evPm (pm2 fIs) [.ex (evCall F_split_tree [.pl 0]), .ex (evC .none)]), .ex (evPm (pm2 fIsN) [.pl 1, .ex (evC .none)])])))
def F__law_is_right : FnV := mkF 1 ev__law_is_right
def b_law_1 : EvS := sAsg 4 (evPm (pm2 fMul) [.pl 4, .pl 5])
def b_law_2 : EvS := sIf (tvNot (tvOf (evCall F__law_is_right [.ex (evCall F__law_numbered [.pl 3, .pl 7])]))) (sRet (evC (.bool false))) (sNil)
def b_law_3 : EvS := sSeq (sAsg 4 (evC (.int 1))) (sSeq (evFor [.ex (evC (.int 1)), .ex (evPm (pm2 fAdd) [.pl 3, .ex (evC (.int 1))])] kRange2 (.nm 5) (b_law_1)) (sSeq (sAsg 6 (evCall F__law_draw [.pl 2, .ex (evPm pMax2 [.ex (evC (.int 1)), .ex (evPm (pm2 fSub) [.pl 4, .ex (evC (.int 59))])])])) (evFor [.pl 6, .ex (evPm pMin2 [.pl 4, .ex (evPm (pm2 fAdd) [.pl 6, .ex (evC (.int 60))])])] kRange2 (.nm 7) (b_law_2))))
def b_law_4 : EvS := sIf (tvNot (tvOf (evCall F__law_is_right [.ex (evCall F__law_numbered [.ex (evC (.int 8)), .ex (evCall F__law_draw [.pl 2, .ex (evC (.int 40320))])])]))) (sRet (evC (.bool false))) (sNil)
def b_law_5 : EvS := sSeq (sAsg 2 (evCall F__law_feed [.pl 0, .pl 1])) (sSeq (evFor [.ex (evC (.int 1)), .ex (evC (.int 8))] kRange2 (.nm 3) (b_law_3)) (evFor [.ex (evC (.int 4))] kRange1 (.nm 8) (b_law_4)))
/-- law(_law_script); slots: 0 _law_script, 1 _law_k, 2 _law_feed_here, 3 _law_many, 4 _law_total, 5 _law_factor, 6 _law_begin, 7 _law_number, 8 _law_turn -/
def ev_law : EvS := sSeq (evFor [.ex (evC (.int 2))] kRange1 (.nm 1) (b_law_5)) (sRet (evC (.bool true)))
def F_law : FnV := mkF 8 ev_law
end
end L57
set_option linter.all false
set_option autoImplicit false
set_option maxRecDepth 100000
namespace L57
open PySem PySem.Spec L2 Ev LawC
open PyProof.Rows hiding St
noncomputable section
open Sep
open PySem.W (minD maxD alike alikeAll dataLe)
def D (o : List Int) : PyData := .tuple (o.map .int)
def LI (o : List Int) : PyData := .list (o.map .int)
/-! plain data of numbers -/
theorem lay_ints : ∀ o : List Int, PyData.canLayAll0 (o.map .int) = true
  | [] => rfl
  | x :: o => by simp [PyData.canLayAll0, PyData.canLay0, lay_ints o]
theorem shp_D (o : List Int) : shp (D o) = true := by
  have := PySem.W.depth_ints o
  simp [shp, D, SeqAt.shaped, PyData.canLay0, PyData.depth, lay_ints, this]
theorem shp_LI (o : List Int) : shp (LI o) = true := by
  have := PySem.W.depth_ints o
  simp [shp, LI, SeqAt.shaped, PyData.canLay0, PyData.depth, lay_ints, this]
theorem alike_ints (o : List Int) : alikeB (o.map .int) = true := by
  simp [alikeB, isNoneD, alike]
theorem sortable_ints (o : List Int) : sortableB (o.map .int) = true := by
  unfold sortableB
  rw [Bool.or_eq_true]
  exact .inr (by simp)
theorem cutD_nat {α : Type} (xs : List α) (b e : Nat) (h : b ≤ e) (he : e ≤ xs.length) : Ev.cutD xs (some (b : Int)) (some (e : Int)) = (xs.drop b).take (e - b) := by
  unfold Ev.cutD
  rw [HT.sIx_nat, HT.sIx_nat, Nat.min_eq_left he, Nat.min_eq_left (by omega)]
theorem cut_seg (o : List Int) (b e : Nat) (h : b ≤ e) (he : e ≤ o.length) : Ev.cutD (o.map PyData.int) (some (b : Int)) (some (e : Int)) = (seg o b e).map .int := by
  rw [cutD_nat _ b e h (by simpa using he), ← List.map_drop, ← List.map_take]
  rfl
theorem best_max (x : Int) (xs : List Int) : pBest maxD [.tuple (.int x :: xs.map .int)] = some (.sh (.int (xs.foldl max x))) := by
  have h1 := shp_D (x :: xs)
  have h2 := alike_ints (x :: xs)
  unfold D at h1
  simp only [List.map_cons] at h1 h2 ⊢
  simp [pBest, seqD, h1, h2, PySem.W.maxD_ints]
theorem best_min (x : Int) (xs : List Int) : pBest minD [.tuple (.int x :: xs.map .int)] = some (.sh (.int (xs.foldl min x))) := by
  have h1 := shp_D (x :: xs)
  have h2 := alike_ints (x :: xs)
  unfold D at h1
  simp only [List.map_cons] at h1 h2 ⊢
  simp [pBest, seqD, h1, h2, PySem.W.minD_ints]
def wordD : Option Bool → PyData
  | some true => .str "keep"
  | some false => .str "turn"
  | none => .none
theorem word_eq (o : List Int) (b m e : Nat) (h1 : b < m) (h2 : m < e) (h3 : e ≤ o.length) : F_word_between [.sh (D o), .sh (.int b), .sh (.int m), .sh (.int e)] = .ret (.sh (wordD (wd (seg o b m) (seg o m e)))) [none, none, none, none, none, none] := by
  have c1 := cut_seg o b m (by omega) (by omega)
  have c2 := cut_seg o m e (by omega) (by omega)
  have l1 := seg_length (o := o) (b := b) (e := m) (by omega) (by omega)
  have l2 := seg_length (o := o) (b := m) (e := e) (by omega) (by omega)
  cases s1 : seg o b m with
  | nil => rw [s1] at l1; simp at l1; omega
  | cons x xs =>
    cases s2 : seg o m e with
    | nil => rw [s2] at l2; simp at l2; omega
    | cons y ys =>
      rw [s1] at c1
      rw [s2] at c2
      have b1 := best_max x xs
      have b2 := best_min y ys
      have b3 := best_min x xs
      have b4 := best_max y ys
      have i1 : Inc (x :: xs) (y :: ys) ↔ xs.foldl max x < ys.foldl min y := inc_iff.symm
      have i2 : Dec (x :: xs) (y :: ys) ↔ ys.foldl max y < xs.foldl min x := dec_iff.symm
      unfold wd
      simp only [i1, i2]
      by_cases q1 : xs.foldl max x < ys.foldl min y
      · simp [lineN_eq, n64_eq, cdec_iff, mkF, trimO, trimE, keepIo_none, keepIo_sh, keepIo_ow, keepIo_io, keepIo_lk, keepIo_ex, entry, sSeq, sNil, sRet, sIf, sEx, sAsg, sSet, sRaise, sPar, evRs, bindRs, bindR, evC, evVar, evMv, evPm, evOs, evO, looks, look, pm1, pm2, evAnd, evOr, evNot, evIf, boolR, tvOf, tvAnd, tvOr, tvNot, truthD, Res.d, Sl.d, putR, free_none, free_sh, free_ow, free_ex, free_io, free_lk, Res.sl, pLen, pList, pTuple, pInt, pMax2, pMin2, pTup, pLst, pIsi, pIsiT, tyD, isTy, evCall, argSls, argSl, apart, clash, backA, Sl.wr, Sl.to, evMut, fEqX_int, fNeX_int, fEqX_str, fNeX_str, fIx, fCmp, fAdd, fInt, fIntC, mSet, powB, isL, evIntK, evCh, evInt, fIs, fIsN, isNone_none, isNone_bool, isNone_int, isNone_str, isNone_list, isNone_tuple, evMeth, fNeg, F_word_between, ev_word_between, D, pSl11, slF, c1, c2, b1, b2, b3, b4, q1, wordD]
      · by_cases q2 : ys.foldl max y < xs.foldl min x
        · simp [lineN_eq, n64_eq, cdec_iff, mkF, trimO, trimE, keepIo_none, keepIo_sh, keepIo_ow, keepIo_io, keepIo_lk, keepIo_ex, entry, sSeq, sNil, sRet, sIf, sEx, sAsg, sSet, sRaise, sPar, evRs, bindRs, bindR, evC, evVar, evMv, evPm, evOs, evO, looks, look, pm1, pm2, evAnd, evOr, evNot, evIf, boolR, tvOf, tvAnd, tvOr, tvNot, truthD, Res.d, Sl.d, putR, free_none, free_sh, free_ow, free_ex, free_io, free_lk, Res.sl, pLen, pList, pTuple, pInt, pMax2, pMin2, pTup, pLst, pIsi, pIsiT, tyD, isTy, evCall, argSls, argSl, apart, clash, backA, Sl.wr, Sl.to, evMut, fEqX_int, fNeX_int, fEqX_str, fNeX_str, fIx, fCmp, fAdd, fInt, fIntC, mSet, powB, isL, evIntK, evCh, evInt, fIs, fIsN, isNone_none, isNone_bool, isNone_int, isNone_str, isNone_list, isNone_tuple, evMeth, fNeg, F_word_between, ev_word_between, D, pSl11, slF, c1, c2, b1, b2, b3, b4, q1, q2, wordD]
        · simp [lineN_eq, n64_eq, cdec_iff, mkF, trimO, trimE, keepIo_none, keepIo_sh, keepIo_ow, keepIo_io, keepIo_lk, keepIo_ex, entry, sSeq, sNil, sRet, sIf, sEx, sAsg, sSet, sRaise, sPar, evRs, bindRs, bindR, evC, evVar, evMv, evPm, evOs, evO, looks, look, pm1, pm2, evAnd, evOr, evNot, evIf, boolR, tvOf, tvAnd, tvOr, tvNot, truthD, Res.d, Sl.d, putR, free_none, free_sh, free_ow, free_ex, free_io, free_lk, Res.sl, pLen, pList, pTuple, pInt, pMax2, pMin2, pTup, pLst, pIsi, pIsiT, tyD, isTy, evCall, argSls, argSl, apart, clash, backA, Sl.wr, Sl.to, evMut, fEqX_int, fNeX_int, fEqX_str, fNeX_str, fIx, fCmp, fAdd, fInt, fIntC, mSet, powB, isL, evIntK, evCh, evInt, fIs, fIsN, isNone_none, isNone_bool, isNone_int, isNone_str, isNone_list, isNone_tuple, evMeth, fNeg, F_word_between, ev_word_between, D, pSl11, slF, c1, c2, b1, b2, b3, b4, q1, q2, wordD]

/-! sorted numbers -/
def isort (o : List Int) : List Int := o.mergeSort fun a b => decide (a ≤ b)
theorem isort_perm (o : List Int) : (isort o).Perm o := List.mergeSort_perm _ _
theorem isort_le (o : List Int) : (isort o).Pairwise (· ≤ ·) := by
  have := List.pairwise_mergeSort (le := fun a b : Int => decide (a ≤ b)) (fun a b c h1 h2 => by
    have := of_decide_eq_true h1
    have := of_decide_eq_true h2
    exact decide_eq_true (by omega)) (fun a b => by
    by_cases h : a ≤ b
    · simp [h]
    · simp only [Bool.or_eq_true, decide_eq_true_eq]; omega) o
  exact this.imp fun h => of_decide_eq_true h
theorem dsort_ints (o : List Int) : dsort (o.map .int) = (isort o).map .int := by
  have e := PySem.W.dataLe_int (β := Int) id
  unfold dsort isort
  refine (List.map_mergeSort (f := PyData.int) fun a _ b _ => ?_).symm
  have := congrFun (congrFun e a) b
  exact this.symm
theorem sorted_ints (o : List Int) : pSorted [.list (o.map .int)] = some (.ow (.list ((isort o).map .int))) := by
  have h1 := shp_LI o
  unfold LI at h1
  simp [pSorted, h1, alike_ints, sortable_ints, dsort_ints]
def IsP (o : List Int) : Prop := o.Perm ((List.range o.length).map fun i : Nat => (i : Int))
theorem isort_range {o : List Int} (h : IsP o) : isort o = (List.range o.length).map fun i : Nat => (i : Int) := by
  refine List.Perm.eq_of_pairwise (le := fun a b : Int => a ≤ b) (fun a b _ _ h1 h2 => by omega) (isort_le o) ?_ ((isort_perm o).trans h)
  rw [List.pairwise_map]
  exact List.pairwise_lt_range.imp fun h => by omega
theorem nodup_of {o : List Int} (h : IsP o) : o.Nodup := by
  refine h.nodup_iff.mpr ?_
  rw [List.nodup_iff_pairwise_ne, List.pairwise_map]
  exact List.pairwise_lt_range.imp fun h => by omega
/-! is_order -/
def isInt : PyData → Bool
  | .int _ => true
  | _ => false
theorem is_integer_eq (d : PyData) : F_is_integer [.sh d] = .ret (.sh (.bool (isInt d))) [none] := by
  cases d <;> simp [lineN_eq, n64_eq, cdec_iff, mkF, trimO, trimE, keepIo_none, keepIo_sh, keepIo_ow, keepIo_io, keepIo_lk, keepIo_ex, entry, sSeq, sNil, sRet, sIf, sEx, sAsg, sSet, sRaise, sPar, evRs, bindRs, bindR, evC, evVar, evMv, evPm, evOs, evO, looks, look, pm1, pm2, evAnd, evOr, evNot, evIf, boolR, tvOf, tvAnd, tvOr, tvNot, truthD, Res.d, Sl.d, putR, free_none, free_sh, free_ow, free_ex, free_io, free_lk, Res.sl, pLen, pList, pTuple, pInt, pMax2, pMin2, pTup, pLst, pIsi, pIsiT, tyD, isTy, evCall, argSls, argSl, apart, clash, backA, Sl.wr, Sl.to, evMut, fEqX_int, fNeX_int, fEqX_str, fNeX_str, fIx, fCmp, fAdd, fInt, fIntC, mSet, powB, isL, evIntK, evCh, evInt, fIs, fIsN, isNone_none, isNone_bool, isNone_int, isNone_str, isNone_list, isNone_tuple, evMeth, fNeg, F_is_integer, ev_is_integer, isInt]
theorem ints_lc (x : Sl) (ds : List PyData) (hl : ds.length ≤ 16777216) (hx : x = .sh (.tuple ds)) : evLc [.pl 0] kSeq (.nm 1) [1] tvYes (evCall F_is_integer [.pl 1]) [some x, none] = .ok (.ow (.list (ds.map fun d => .bool (isInt d)))) [some x, none] := by
  subst hx
  refine evLc_map (ρ2 := [some (.sh (.tuple ds)), none]) _ rfl rfl rfl rfl hl rfl (fun d hd => ⟨[some (.sh (.tuple ds)), some (.sh d)], rfl, .sh (.bool (isInt d)), [some (.sh (.tuple ds)), some (.sh d)], ?_, rfl, rfl⟩) rfl
  simp [lineN_eq, n64_eq, cdec_iff, mkF, trimO, trimE, keepIo_none, keepIo_sh, keepIo_ow, keepIo_io, keepIo_lk, keepIo_ex, entry, sSeq, sNil, sRet, sIf, sEx, sAsg, sSet, sRaise, sPar, evRs, bindRs, bindR, evC, evVar, evMv, evPm, evOs, evO, looks, look, pm1, pm2, evAnd, evOr, evNot, evIf, boolR, tvOf, tvAnd, tvOr, tvNot, truthD, Res.d, Sl.d, putR, free_none, free_sh, free_ow, free_ex, free_io, free_lk, Res.sl, pLen, pList, pTuple, pInt, pMax2, pMin2, pTup, pLst, pIsi, pIsiT, tyD, isTy, evCall, argSls, argSl, apart, clash, backA, Sl.wr, Sl.to, evMut, fEqX_int, fNeX_int, fEqX_str, fNeX_str, fIx, fCmp, fAdd, fInt, fIntC, mSet, powB, isL, evIntK, evCh, evInt, fIs, fIsN, isNone_none, isNone_bool, isNone_int, isNone_str, isNone_list, isNone_tuple, evMeth, fNeg, is_integer_eq]
theorem all_isInt (o : List Int) : pAll [.list ((o.map PyData.int).map fun d => .bool (isInt d))] = some (.sh (.bool true)) := by
  rw [pAll_map]
  simp [isInt]
theorem eqvAll_self : ∀ ns : List Int, PyData.eqvAll (ns.map .int) (ns.map .int) = true
  | [] => rfl
  | n :: ns => by simp [PyData.eqvAll, PyData.eqv, eqvAll_self ns]
theorem rgI0 (n : Nat) : rgI 0 n = ((List.range n).map fun i : Nat => (i : Int)).map .int := by
  simp [rgI, Function.comp_def]
theorem range_eq {o : List Int} (h : IsP o) : fEqX (.list ((isort o).map .int)) (.list (rgI 0 o.length)) = some (.sh (.bool true)) := by
  have sh1 := shp_LI (isort o)
  have sh2 : shp (.list (rgI 0 o.length)) = true := by
    rw [rgI0]
    exact shp_LI _
  unfold LI at sh1
  have eq : PyData.eqv (.list ((isort o).map .int)) (.list (rgI 0 o.length)) = true := by
    rw [rgI0, isort_range h]
    simp only [PyData.eqv]
    exact eqvAll_self _
  simp [fEqX, fEq, sh1, sh2, eq]
theorem order_eq {o : List Int} (h : IsP o) (h1 : 1 ≤ o.length) (h2 : o.length ≤ 8) : F_is_order [.sh (D o)] = .ret (.sh (.bool true)) [none, none] := by
  have l1 : (1 : Int) ≤ o.length := by omega
  have l2 : (o.length : Int) ≤ 8 := by omega
  have l3 : o.length ≤ 16777216 := by omega
  have ai := all_isInt o
  have e1 := lrg_nat l3
  have e2 := range_eq h
  simp only [List.map_map] at ai
  have lc := ints_lc (.sh (D o)) (o.map .int) (by simpa using l3) rfl
  unfold D at lc
  simp [lineN_eq, n64_eq, cdec_iff, mkF, trimO, trimE, keepIo_none, keepIo_sh, keepIo_ow, keepIo_io, keepIo_lk, keepIo_ex, entry, sSeq, sNil, sRet, sIf, sEx, sAsg, sSet, sRaise, sPar, evRs, bindRs, bindR, evC, evVar, evMv, evPm, evOs, evO, looks, look, pm1, pm2, evAnd, evOr, evNot, evIf, boolR, tvOf, tvAnd, tvOr, tvNot, truthD, Res.d, Sl.d, putR, free_none, free_sh, free_ow, free_ex, free_io, free_lk, Res.sl, pLen, pList, pTuple, pInt, pMax2, pMin2, pTup, pLst, pIsi, pIsiT, tyD, isTy, evCall, argSls, argSl, apart, clash, backA, Sl.wr, Sl.to, evMut, fEqX_int, fNeX_int, fEqX_str, fNeX_str, fIx, fCmp, fAdd, fInt, fIntC, mSet, powB, isL, evIntK, evCh, evInt, fIs, fIsN, isNone_none, isNone_bool, isNone_int, isNone_str, isNone_list, isNone_tuple, evMeth, fNeg, F_is_order, ev_is_order, D, l1, l2, lc, ai, c_MOST_PLACES, sorted_ints, e1, e2]
theorem need_eq {o : List Int} (h : IsP o) (h1 : 1 ≤ o.length) (h2 : o.length ≤ 8) : F_need_order [.sh (D o)] = .next [none] := by
  simp [lineN_eq, n64_eq, cdec_iff, mkF, trimO, trimE, keepIo_none, keepIo_sh, keepIo_ow, keepIo_io, keepIo_lk, keepIo_ex, entry, sSeq, sNil, sRet, sIf, sEx, sAsg, sSet, sRaise, sPar, evRs, bindRs, bindR, evC, evVar, evMv, evPm, evOs, evO, looks, look, pm1, pm2, evAnd, evOr, evNot, evIf, boolR, tvOf, tvAnd, tvOr, tvNot, truthD, Res.d, Sl.d, putR, free_none, free_sh, free_ow, free_ex, free_io, free_lk, Res.sl, pLen, pList, pTuple, pInt, pMax2, pMin2, pTup, pLst, pIsi, pIsiT, tyD, isTy, evCall, argSls, argSl, apart, clash, backA, Sl.wr, Sl.to, evMut, fEqX_int, fNeX_int, fEqX_str, fNeX_str, fIx, fCmp, fAdd, fInt, fIntC, mSet, powB, isL, evIntK, evCh, evInt, fIs, fIsN, isNone_none, isNone_bool, isNone_int, isNone_str, isNone_list, isNone_tuple, evMeth, fNeg, F_need_order, ev_need_order, order_eq h h1 h2]

/-! the tree -/
def node (w : Bool) (x y : PyData) : PyData := .tuple [wordD (some w), x, y]
def leaf (b : Nat) : PyData := .int b
theorem tr_some {o : List Int} : ∀ {n b e : Nat} {x : PyData}, tr node leaf o n b e = some x → isNoneD x = false
  | 0, b, e, x, h => by cases h
  | n + 1, b, e, x, h => by
    unfold tr at h
    split at h
    · cases h; rfl
    · cases f : (List.range' (b + 1) (e - (b + 1))).findSome? fun m => (wd (seg o b m) (seg o m e)).map fun w => jn node w (tr node leaf o n b m) (tr node leaf o n m e) with
      | none => rw [f] at h; cases h
      | some r =>
        rw [f] at h
        obtain ⟨m, _, _, em, _⟩ := firstR f
        obtain ⟨w, _, ew⟩ := Option.map_eq_some_iff.mp em
        have h' : r = some x := h
        rw [← ew] at h'
        unfold jn at h'
        obtain ⟨y1, _, h'⟩ := Option.bind_eq_some_iff.mp h'
        obtain ⟨y2, _, rfl⟩ := Option.map_eq_some_iff.mp h'
        rfl
theorem isNone_getD (o : List Int) (n b e : Nat) : isNoneD ((tr node leaf o n b e).getD .none) = (tr node leaf o n b e).isNone := by
  cases h : tr node leaf o n b e with
  | none => rfl
  | some x => simp [tr_some h]
theorem tree_eq (o : List Int) (hl : o.length ≤ 100) : ∀ (n b e : Nat), b < e → e ≤ o.length → e - b ≤ n → F_tree_between n [.sh (D o), .sh (.int b), .sh (.int e)] = .ret (.sh ((tr node leaf o n b e).getD .none)) [none, none, none, none, none, none, none]
  | 0, b, e, h1, h2, h3 => by omega
  | n + 1, b, e, h1, h2, h3 => by
    rw [F_tree_between_s]
    unfold mkF ev_tree_between
    by_cases h : e = b + 1
    · have z : (e : Int) - (b : Int) = 1 := by omega
      have q : tr node leaf o (n + 1) b e = some (leaf b) := by unfold tr; rw [if_pos h]
      rw [q]
      simp [lineN_eq, n64_eq, cdec_iff, mkF, trimO, trimE, keepIo_none, keepIo_sh, keepIo_ow, keepIo_io, keepIo_lk, keepIo_ex, entry, sSeq, sNil, sRet, sIf, sEx, sAsg, sSet, sRaise, sPar, evRs, bindRs, bindR, evC, evVar, evMv, evPm, evOs, evO, looks, look, pm1, pm2, evAnd, evOr, evNot, evIf, boolR, tvOf, tvAnd, tvOr, tvNot, truthD, Res.d, Sl.d, putR, free_none, free_sh, free_ow, free_ex, free_io, free_lk, Res.sl, pLen, pList, pTuple, pInt, pMax2, pMin2, pTup, pLst, pIsi, pIsiT, tyD, isTy, evCall, argSls, argSl, apart, clash, backA, Sl.wr, Sl.to, evMut, fEqX_int, fNeX_int, fEqX_str, fNeX_str, fIx, fCmp, fAdd, fInt, fIntC, mSet, powB, isL, evIntK, evCh, evInt, fIs, fIsN, isNone_none, isNone_bool, isNone_int, isNone_str, isNone_list, isNone_tuple, evMeth, fNeg, z, leaf]
    · have z : ¬ (e : Int) - (b : Int) = 1 := by omega
      have g1 : sIf (tvOf (evPm (pm2 fEqX) [.ex (evPm (pm2 fSub) [.pl 2, .pl 1]), .ex (evC (.int 1))])) (sRet (evVar 1)) (sNil) (entry [.sh (D o), .sh (.int b), .sh (.int e)] 4) = .next [some (.sh (D o)), some (.sh (.int b)), some (.sh (.int e)), none, none, none, none] := by
        simp [lineN_eq, n64_eq, cdec_iff, mkF, trimO, trimE, keepIo_none, keepIo_sh, keepIo_ow, keepIo_io, keepIo_lk, keepIo_ex, entry, sSeq, sNil, sRet, sIf, sEx, sAsg, sSet, sRaise, sPar, evRs, bindRs, bindR, evC, evVar, evMv, evPm, evOs, evO, looks, look, pm1, pm2, evAnd, evOr, evNot, evIf, boolR, tvOf, tvAnd, tvOr, tvNot, truthD, Res.d, Sl.d, putR, free_none, free_sh, free_ow, free_ex, free_io, free_lk, Res.sl, pLen, pList, pTuple, pInt, pMax2, pMin2, pTup, pLst, pIsi, pIsiT, tyD, isTy, evCall, argSls, argSl, apart, clash, backA, Sl.wr, Sl.to, evMut, fEqX_int, fNeX_int, fEqX_str, fNeX_str, fIx, fCmp, fAdd, fInt, fIntC, mSet, powB, isL, evIntK, evCh, evInt, fIs, fIsN, isNone_none, isNone_bool, isNone_int, isNone_str, isNone_list, isNone_tuple, evMeth, fNeg, z]
      rw [sSeq_next g1]
      have items : kRange2 [.int ((b : Int) + 1), .int (e : Int)] = some ((List.range' (b + 1) (e - (b + 1))).map fun i : Nat => .int (i : Int)) := by
        have := kR2 (m := b + 1) (n := e) (by omega) (by omega)
        rw [rgI_map] at this
        simpa using this
      have e1 : evOs [.ex (evPm (pm2 fAdd) [.pl 1, .ex (evC (.int 1))]), .pl 2] [some (.sh (D o)), some (.sh (.int b)), some (.sh (.int e)), none, none, none, none] = .ok [.sh (.int ((b : Int) + 1)), .pl 2] [some (.sh (D o)), some (.sh (.int b)), some (.sh (.int e)), none, none, none, none] := by
        simp [lineN_eq, n64_eq, cdec_iff, mkF, trimO, trimE, keepIo_none, keepIo_sh, keepIo_ow, keepIo_io, keepIo_lk, keepIo_ex, entry, sSeq, sNil, sRet, sIf, sEx, sAsg, sSet, sRaise, sPar, evRs, bindRs, bindR, evC, evVar, evMv, evPm, evOs, evO, looks, look, pm1, pm2, evAnd, evOr, evNot, evIf, boolR, tvOf, tvAnd, tvOr, tvNot, truthD, Res.d, Sl.d, putR, free_none, free_sh, free_ow, free_ex, free_io, free_lk, Res.sl, pLen, pList, pTuple, pInt, pMax2, pMin2, pTup, pLst, pIsi, pIsiT, tyD, isTy, evCall, argSls, argSl, apart, clash, backA, Sl.wr, Sl.to, evMut, fEqX_int, fNeX_int, fEqX_str, fNeX_str, fIx, fCmp, fAdd, fInt, fIntC, mSet, powB, isL, evIntK, evCh, evInt, fIs, fIsN, isNone_none, isNone_bool, isNone_int, isNone_str, isNone_list, isNone_tuple, evMeth, fNeg]
      have go := forGo_find (t := .nm 3) (body := b_tree_between_1 (F_tree_between n)) (fun i : Nat => .int (i : Int)) (fun ρ => ∃ x3 x4, Sl.free x3 = true ∧ Sl.free x4 = true ∧ ρ = [some (.sh (D o)), some (.sh (.int b)), some (.sh (.int e)), x3, x4, none, none])
        (fun ρ => trimE ρ = [none, none, none, none, none, none, none])
        (fun m => (wd (seg o b m) (seg o m e)).map fun w => .sh ((jn node w (tr node leaf o n b m) (tr node leaf o n m e)).getD .none)) (List.range' (b + 1) (e - (b + 1))) [some (.sh (D o)), some (.sh (.int b)), some (.sh (.int e)), none, none, none, none] ⟨none, none, rfl, rfl, rfl⟩ fun m hm ρ ⟨x3, x4, f3, f4, eρ⟩ => by
          subst eρ
          obtain ⟨m1, m2⟩ : b < m ∧ m < e := by
            simp [List.mem_range'] at hm
            obtain ⟨i, hi, rfl⟩ := hm
            omega
          refine ⟨[some (.sh (D o)), some (.sh (.int b)), some (.sh (.int e)), some (.sh (.int m)), x4, none, none], by simp [lineN_eq, n64_eq, cdec_iff, mkF, trimO, trimE, keepIo_none, keepIo_sh, keepIo_ow, keepIo_io, keepIo_lk, keepIo_ex, entry, sSeq, sNil, sRet, sIf, sEx, sAsg, sSet, sRaise, sPar, evRs, bindRs, bindR, evC, evVar, evMv, evPm, evOs, evO, looks, look, pm1, pm2, evAnd, evOr, evNot, evIf, boolR, tvOf, tvAnd, tvOr, tvNot, truthD, Res.d, Sl.d, putR, free_none, free_sh, free_ow, free_ex, free_io, free_lk, Res.sl, pLen, pList, pTuple, pInt, pMax2, pMin2, pTup, pLst, pIsi, pIsiT, tyD, isTy, evCall, argSls, argSl, apart, clash, backA, Sl.wr, Sl.to, evMut, fEqX_int, fNeX_int, fEqX_str, fNeX_str, fIx, fCmp, fAdd, fInt, fIntC, mSet, powB, isL, evIntK, evCh, evInt, fIs, fIsN, isNone_none, isNone_bool, isNone_int, isNone_str, isNone_list, isNone_tuple, evMeth, fNeg, evLc, calmB, lks, Arg.lk, lock1, wipeE, bindT, restE, keepSh, uns, Arg.un, unlk1, tvYes, f3], ?_⟩
          have w := word_eq o b m e m1 m2 h2
          have t1 := tree_eq o hl n b m m1 (by omega) (by omega)
          have t2 := tree_eq o hl n m e m2 h2 (by omega)
          have i1 := isNone_getD o n b m
          have i2 := isNone_getD o n m e
          cases q : wd (seg o b m) (seg o m e) with
          | none =>
            rw [q] at w
            refine ⟨[some (.sh (D o)), some (.sh (.int b)), some (.sh (.int e)), some (.sh (.int m)), some (.sh .none), none, none], ?_, _, _, rfl, rfl, rfl⟩
            simp [lineN_eq, n64_eq, cdec_iff, mkF, trimO, trimE, keepIo_none, keepIo_sh, keepIo_ow, keepIo_io, keepIo_lk, keepIo_ex, entry, sSeq, sNil, sRet, sIf, sEx, sAsg, sSet, sRaise, sPar, evRs, bindRs, bindR, evC, evVar, evMv, evPm, evOs, evO, looks, look, pm1, pm2, evAnd, evOr, evNot, evIf, boolR, tvOf, tvAnd, tvOr, tvNot, truthD, Res.d, Sl.d, putR, free_none, free_sh, free_ow, free_ex, free_io, free_lk, Res.sl, pLen, pList, pTuple, pInt, pMax2, pMin2, pTup, pLst, pIsi, pIsiT, tyD, isTy, evCall, argSls, argSl, apart, clash, backA, Sl.wr, Sl.to, evMut, fEqX_int, fNeX_int, fEqX_str, fNeX_str, fIx, fCmp, fAdd, fInt, fIntC, mSet, powB, isL, evIntK, evCh, evInt, fIs, fIsN, isNone_none, isNone_bool, isNone_int, isNone_str, isNone_list, isNone_tuple, evMeth, fNeg, b_tree_between_1, w, f4, wordD]
          | some v =>
            rw [q] at w
            have nv : isNoneD (wordD (some v)) = false := by cases v <;> rfl
            refine ⟨[some (.sh (D o)), some (.sh (.int b)), some (.sh (.int e)), some (.sh (.int m)), some (.sh (wordD (some v))), some (.sh ((tr node leaf o n b m).getD .none)), some (.sh ((tr node leaf o n m e).getD .none))], ?_, by simp [trimE, keepIo]⟩
            cases a1 : tr node leaf o n b m with
            | none =>
              rw [a1] at t1 i1
              simp [lineN_eq, n64_eq, cdec_iff, mkF, trimO, trimE, keepIo_none, keepIo_sh, keepIo_ow, keepIo_io, keepIo_lk, keepIo_ex, entry, sSeq, sNil, sRet, sIf, sEx, sAsg, sSet, sRaise, sPar, evRs, bindRs, bindR, evC, evVar, evMv, evPm, evOs, evO, looks, look, pm1, pm2, evAnd, evOr, evNot, evIf, boolR, tvOf, tvAnd, tvOr, tvNot, truthD, Res.d, Sl.d, putR, free_none, free_sh, free_ow, free_ex, free_io, free_lk, Res.sl, pLen, pList, pTuple, pInt, pMax2, pMin2, pTup, pLst, pIsi, pIsiT, tyD, isTy, evCall, argSls, argSl, apart, clash, backA, Sl.wr, Sl.to, evMut, fEqX_int, fNeX_int, fEqX_str, fNeX_str, fIx, fCmp, fAdd, fInt, fIntC, mSet, powB, isL, evIntK, evCh, evInt, fIs, fIsN, isNone_none, isNone_bool, isNone_int, isNone_str, isNone_list, isNone_tuple, evMeth, fNeg, b_tree_between_1, w, f4, nv, t1, t2, jn]
            | some y1 =>
              rw [a1] at t1 i1
              cases a2 : tr node leaf o n m e with
              | none =>
                rw [a2] at t2 i2
                simp [lineN_eq, n64_eq, cdec_iff, mkF, trimO, trimE, keepIo_none, keepIo_sh, keepIo_ow, keepIo_io, keepIo_lk, keepIo_ex, entry, sSeq, sNil, sRet, sIf, sEx, sAsg, sSet, sRaise, sPar, evRs, bindRs, bindR, evC, evVar, evMv, evPm, evOs, evO, looks, look, pm1, pm2, evAnd, evOr, evNot, evIf, boolR, tvOf, tvAnd, tvOr, tvNot, truthD, Res.d, Sl.d, putR, free_none, free_sh, free_ow, free_ex, free_io, free_lk, Res.sl, pLen, pList, pTuple, pInt, pMax2, pMin2, pTup, pLst, pIsi, pIsiT, tyD, isTy, evCall, argSls, argSl, apart, clash, backA, Sl.wr, Sl.to, evMut, fEqX_int, fNeX_int, fEqX_str, fNeX_str, fIx, fCmp, fAdd, fInt, fIntC, mSet, powB, isL, evIntK, evCh, evInt, fIs, fIsN, isNone_none, isNone_bool, isNone_int, isNone_str, isNone_list, isNone_tuple, evMeth, fNeg, b_tree_between_1, w, f4, nv, t1, t2, tr_some a1, jn]
              | some y2 =>
                rw [a2] at t2 i2
                simp [lineN_eq, n64_eq, cdec_iff, mkF, trimO, trimE, keepIo_none, keepIo_sh, keepIo_ow, keepIo_io, keepIo_lk, keepIo_ex, entry, sSeq, sNil, sRet, sIf, sEx, sAsg, sSet, sRaise, sPar, evRs, bindRs, bindR, evC, evVar, evMv, evPm, evOs, evO, looks, look, pm1, pm2, evAnd, evOr, evNot, evIf, boolR, tvOf, tvAnd, tvOr, tvNot, truthD, Res.d, Sl.d, putR, free_none, free_sh, free_ow, free_ex, free_io, free_lk, Res.sl, pLen, pList, pTuple, pInt, pMax2, pMin2, pTup, pLst, pIsi, pIsiT, tyD, isTy, evCall, argSls, argSl, apart, clash, backA, Sl.wr, Sl.to, evMut, fEqX_int, fNeX_int, fEqX_str, fNeX_str, fIx, fCmp, fAdd, fInt, fIntC, mSet, powB, isL, evIntK, evCh, evInt, fIs, fIsN, isNone_none, isNone_bool, isNone_int, isNone_str, isNone_list, isNone_tuple, evMeth, fNeg, b_tree_between_1, w, f4, nv, t1, t2, tr_some a1, tr_some a2, node, jn]
      unfold tr
      rw [if_neg h]
      cases q : (List.range' (b + 1) (e - (b + 1))).findSome? fun m => (wd (seg o b m) (seg o m e)).map fun w => jn node w (tr node leaf o n b m) (tr node leaf o n m e) with
      | none =>
        have q2 : (List.range' (b + 1) (e - (b + 1))).findSome? (fun m => (wd (seg o b m) (seg o m e)).map fun w => Res.sh ((jn node w (tr node leaf o n b m) (tr node leaf o n m e)).getD .none)) = none := by
          rw [List.findSome?_eq_none_iff] at q ⊢
          intro m hm
          simpa using q m hm
        rw [q2] at go
        obtain ⟨ρ2, g2, x3, x4, f3, f4, rfl⟩ := go
        have g3 := evFor_next (ρ3 := [some (.sh (D o)), some (.sh (.int b)), some (.sh (.int e)), x3, x4, none, none]) e1 rfl items g2 rfl
        rw [sSeq_next g3]
        simp [lineN_eq, n64_eq, cdec_iff, mkF, trimO, trimE, keepIo_none, keepIo_sh, keepIo_ow, keepIo_io, keepIo_lk, keepIo_ex, entry, sSeq, sNil, sRet, sIf, sEx, sAsg, sSet, sRaise, sPar, evRs, bindRs, bindR, evC, evVar, evMv, evPm, evOs, evO, looks, look, pm1, pm2, evAnd, evOr, evNot, evIf, boolR, tvOf, tvAnd, tvOr, tvNot, truthD, Res.d, Sl.d, putR, free_none, free_sh, free_ow, free_ex, free_io, free_lk, Res.sl, pLen, pList, pTuple, pInt, pMax2, pMin2, pTup, pLst, pIsi, pIsiT, tyD, isTy, evCall, argSls, argSl, apart, clash, backA, Sl.wr, Sl.to, evMut, fEqX_int, fNeX_int, fEqX_str, fNeX_str, fIx, fCmp, fAdd, fInt, fIntC, mSet, powB, isL, evIntK, evCh, evInt, fIs, fIsN, isNone_none, isNone_bool, isNone_int, isNone_str, isNone_list, isNone_tuple, evMeth, fNeg, keepIo_free f3, keepIo_free f4]
      | some r =>
        have q2 : (List.range' (b + 1) (e - (b + 1))).findSome? (fun m => (wd (seg o b m) (seg o m e)).map fun w => Res.sh ((jn node w (tr node leaf o n b m) (tr node leaf o n m e)).getD .none)) = some (.sh (r.getD .none)) := by
          have e := List.map_findSome? (l := List.range' (b + 1) (e - (b + 1))) (f := fun m => (wd (seg o b m) (seg o m e)).map fun w => jn node w (tr node leaf o n b m) (tr node leaf o n m e)) (g := fun x => Res.sh (x.getD .none))
          rw [q] at e
          simpa [Function.comp_def, Option.map_map] using e.symm
        rw [q2] at go
        obtain ⟨ρ2, g2, g4⟩ := go
        have g3 := evFor_ret e1 rfl items g2 rfl
        rw [sSeq_ret g3]
        show OutS.ret _ (trimE ρ2) = _
        rw [g4]
        rfl
theorem split_eq {o : List Int} (h : IsP o) (h1 : 1 ≤ o.length) (h2 : o.length ≤ 8) : F_split_tree [.sh (D o)] = .ret (.sh ((tr node leaf o 9 0 o.length).getD .none)) [none] := by
  have t := tree_eq o (by omega) 9 0 o.length h1 (Nat.le_refl _) (by omega)
  have t2 : F_tree_of [.sh (D o)] = .ret (.sh ((tr node leaf o 9 0 o.length).getD .none)) [none] := by
    unfold D at t ⊢
    rw [show ((0 : Nat) : Int) = 0 from rfl] at t
    simp [lineN_eq, n64_eq, cdec_iff, mkF, trimO, trimE, keepIo_none, keepIo_sh, keepIo_ow, keepIo_io, keepIo_lk, keepIo_ex, entry, sSeq, sNil, sRet, sIf, sEx, sAsg, sSet, sRaise, sPar, evRs, bindRs, bindR, evC, evVar, evMv, evPm, evOs, evO, looks, look, pm1, pm2, evAnd, evOr, evNot, evIf, boolR, tvOf, tvAnd, tvOr, tvNot, truthD, Res.d, Sl.d, putR, free_none, free_sh, free_ow, free_ex, free_io, free_lk, Res.sl, pLen, pList, pTuple, pInt, pMax2, pMin2, pTup, pLst, pIsi, pIsiT, tyD, isTy, evCall, argSls, argSl, apart, clash, backA, Sl.wr, Sl.to, evMut, fEqX_int, fNeX_int, fEqX_str, fNeX_str, fIx, fCmp, fAdd, fInt, fIntC, mSet, powB, isL, evIntK, evCh, evInt, fIs, fIsN, isNone_none, isNone_bool, isNone_int, isNone_str, isNone_list, isNone_tuple, evMeth, fNeg, F_tree_of, ev_tree_of, t]
  simp [lineN_eq, n64_eq, cdec_iff, mkF, trimO, trimE, keepIo_none, keepIo_sh, keepIo_ow, keepIo_io, keepIo_lk, keepIo_ex, entry, sSeq, sNil, sRet, sIf, sEx, sAsg, sSet, sRaise, sPar, evRs, bindRs, bindR, evC, evVar, evMv, evPm, evOs, evO, looks, look, pm1, pm2, evAnd, evOr, evNot, evIf, boolR, tvOf, tvAnd, tvOr, tvNot, truthD, Res.d, Sl.d, putR, free_none, free_sh, free_ow, free_ex, free_io, free_lk, Res.sl, pLen, pList, pTuple, pInt, pMax2, pMin2, pTup, pLst, pIsi, pIsiT, tyD, isTy, evCall, argSls, argSl, apart, clash, backA, Sl.wr, Sl.to, evMut, fEqX_int, fNeX_int, fEqX_str, fNeX_str, fIx, fCmp, fAdd, fInt, fIntC, mSet, powB, isL, evIntK, evCh, evInt, fIs, fIsN, isNone_none, isNone_bool, isNone_int, isNone_str, isNone_list, isNone_tuple, evMeth, fNeg, F_split_tree, ev_split_tree, need_eq h h1 h2, t2]
theorem seg_all (o : List Int) : seg o 0 o.length = o := by simp [seg]
/-- no tree, just where there is a bar -/
theorem split_none {o : List Int} (h : IsP o) (h1 : 1 ≤ o.length) (h2 : o.length ≤ 8) : isNoneD ((tr node leaf o 9 0 o.length).getD .none) = (fnd1 o o.length).isSome := by
  have nd := nodup_of h
  rw [isNone_getD]
  have t := tr_none node leaf nd 9 0 o.length h1 (Nat.le_refl _) (by omega)
  rw [seg_all, pat_iff nd] at t
  cases f : fnd1 o o.length with
  | none =>
    have : ¬ tr node leaf o 9 0 o.length = none := fun e => by
      obtain ⟨q, u, b⟩ := t.mp e
      rw [fnd1_none f q u] at b
      cases b
    cases e : tr node leaf o 9 0 o.length with
    | none => exact absurd e this
    | some x => rfl
  | some q =>
    obtain ⟨u, b, _⟩ := fnd1_some f
    rw [t.mpr ⟨q, u, b⟩]
    rfl
/-! ranks -/
def DN (l : List Nat) : List PyData := l.map fun n : Nat => .int (n : Int)
theorem DN_ints (l : List Nat) : DN l = (l.map fun n : Nat => (n : Int)).map .int := by simp [DN]
theorem eqvAll_DN : ∀ a b : List Nat, PyData.eqvAll (DN a) (DN b) = decide (a = b)
  | [], [] => rfl
  | [], _ :: _ => rfl
  | _ :: _, [] => rfl
  | x :: a, y :: b => by
    have ih := eqvAll_DN a b
    unfold DN at ih ⊢
    simp only [List.map_cons, PyData.eqvAll, PyData.eqv, ih, List.cons.injEq]
    by_cases h : x = y
    · simp [h]
    · have : ¬ (x : Int) = (y : Int) := by omega
      simp [h, this]
theorem idx_sorted {x : Int} : ∀ l : List Int, l.Pairwise (· < ·) → x ∈ l → l.findIdx? (fun z => decide (z = x)) = some (l.filter fun y => decide (y < x)).length
  | [], _, h => by simp at h
  | a :: l, hp, h => by
    rw [List.pairwise_cons] at hp
    rw [List.findIdx?_cons]
    by_cases e : a = x
    · subst e
      have : l.filter (fun y => decide (y < a)) = [] := by
        rw [List.filter_eq_nil_iff]
        intro y hy
        have := hp.1 y hy
        simp
        omega
      simp [this]
    · have hx : x ∈ l := by
        rcases List.mem_cons.mp h with h | h
        · exact absurd h.symm e
        · exact h
      have lt := hp.1 x hx
      have ih := idx_sorted l hp.2 hx
      simp [e, ih, lt]
theorem isort_lt {o : List Int} (nd : o.Nodup) : (isort o).Pairwise (· < ·) := by
  have n2 : (isort o).Nodup := (isort_perm o).nodup_iff.mpr nd
  rw [List.nodup_iff_pairwise_ne] at n2
  exact ((isort_le o).and n2).imp fun h => by omega
theorem index_eq {ns : List Int} (nd : ns.Nodup) {x : Int} (hx : x ∈ ns) : pIndex [.list ((isort ns).map .int), .int x] = some (.sh (.int ((ns.filter fun y => decide (y < x)).length : Nat))) := by
  have h1 := shp_LI (isort ns)
  unfold LI at h1
  have e : ((isort ns).map PyData.int).findIdx? (fun z => PyData.eqv z (.int x)) = some (ns.filter fun y => decide (y < x)).length := by
    rw [List.findIdx?_map]
    have q := idx_sorted (isort ns) (isort_lt nd) ((isort_perm ns).mem_iff.mpr hx)
    rw [((isort_perm ns).filter _).length_eq] at q
    rw [← q]
    congr 1
  simp [pIndex, h1, shp_int, e]
theorem rk_D (ns : List Int) : (ns.map PyData.int).map (fun d => match d with
    | .int x => PyData.int ((ns.filter fun y => decide (y < x)).length : Nat)
    | _ => .none) = DN (rk ns) := by
  simp [DN, rk, Function.comp_def]
theorem stands_eq {ns : List Int} (nd : ns.Nodup) (hl : ns.length ≤ 1000) (told : List Nat) : F_stands_so [.io (LI ns), .sh (.tuple (DN told))] = .ret (.sh (.bool (decide (rk ns = told)))) [some (.io (LI ns)), none, none, none] := by
  have lc : evLc [.pl 0] kSeq (.nm 3) [3] tvYes (evMeth isLst pIndex (.pl 2) [.pl 3]) [some (.io (.list (ns.map .int))), some (.sh (.tuple (DN told))), some (.ow (.list ((isort ns).map .int))), none] = .ok (.ow (.list (DN (rk ns)))) [some (.io (.list (ns.map .int))), some (.sh (.tuple (DN told))), some (.ow (.list ((isort ns).map .int))), none] := by
    rw [← rk_D]
    refine evLc_map (ρ2 := [some (.lk (.list (ns.map .int))), some (.sh (.tuple (DN told))), some (.ow (.list ((isort ns).map .int))), none]) _ rfl rfl rfl rfl (by simp; omega) rfl (fun d hd => ?_) rfl
    obtain ⟨x, hx, rfl⟩ := List.mem_map.mp hd
    refine ⟨[some (.lk (.list (ns.map .int))), some (.sh (.tuple (DN told))), some (.ow (.list ((isort ns).map .int))), some (.sh (.int x))], rfl, .sh _, [some (.lk (.list (ns.map .int))), some (.sh (.tuple (DN told))), some (.ow (.list ((isort ns).map .int))), some (.sh (.int x))], ?_, rfl, rfl⟩
    have ie := index_eq nd hx
    simp [lineN_eq, n64_eq, cdec_iff, mkF, trimO, trimE, keepIo_none, keepIo_sh, keepIo_ow, keepIo_io, keepIo_lk, keepIo_ex, entry, sSeq, sNil, sRet, sIf, sEx, sAsg, sSet, sRaise, sPar, evRs, bindRs, bindR, evC, evVar, evMv, evPm, evOs, evO, looks, look, pm1, pm2, evAnd, evOr, evNot, evIf, boolR, tvOf, tvAnd, tvOr, tvNot, truthD, Res.d, Sl.d, putR, free_none, free_sh, free_ow, free_ex, free_io, free_lk, Res.sl, pLen, pList, pTuple, pInt, pMax2, pMin2, pTup, pLst, pIsi, pIsiT, tyD, isTy, evCall, argSls, argSl, apart, clash, backA, Sl.wr, Sl.to, evMut, fEqX_int, fNeX_int, fEqX_str, fNeX_str, fIx, fCmp, fAdd, fInt, fIntC, mSet, powB, isL, evIntK, evCh, evInt, fIs, fIsN, isNone_none, isNone_bool, isNone_int, isNone_str, isNone_list, isNone_tuple, evMeth, fNeg, isLst, ie]
  have s1 := shp_D ((rk ns).map fun n : Nat => (n : Int))
  have s2 := shp_D (told.map fun n : Nat => (n : Int))
  unfold D at s1 s2
  rw [← DN_ints] at s1 s2
  have e1 : fEqX (.tuple (DN (rk ns))) (.tuple (DN told)) = some (.sh (.bool (decide (rk ns = told)))) := by
    simp [fEqX, fEq, s1, s2, PyData.eqv, eqvAll_DN]
  simp [lineN_eq, n64_eq, cdec_iff, mkF, trimO, trimE, keepIo_none, keepIo_sh, keepIo_ow, keepIo_io, keepIo_lk, keepIo_ex, entry, sSeq, sNil, sRet, sIf, sEx, sAsg, sSet, sRaise, sPar, evRs, bindRs, bindR, evC, evVar, evMv, evPm, evOs, evO, looks, look, pm1, pm2, evAnd, evOr, evNot, evIf, boolR, tvOf, tvAnd, tvOr, tvNot, truthD, Res.d, Sl.d, putR, free_none, free_sh, free_ow, free_ex, free_io, free_lk, Res.sl, pLen, pList, pTuple, pInt, pMax2, pMin2, pTup, pLst, pIsi, pIsiT, tyD, isTy, evCall, argSls, argSl, apart, clash, backA, Sl.wr, Sl.to, evMut, fEqX_int, fNeX_int, fEqX_str, fNeX_str, fIx, fCmp, fAdd, fInt, fIntC, mSet, powB, isL, evIntK, evCh, evInt, fIs, fIsN, isNone_none, isNone_bool, isNone_int, isNone_str, isNone_list, isNone_tuple, evMeth, fNeg, F_stands_so, ev_stands_so, LI, sorted_ints, lc, e1]
theorem law_stands_eq (ns : List Int) (hl : ns.length ≤ 1000) : F__law_stands [.sh (LI ns)] = .ret (.ow (.list (DN (rk ns)))) [none, none, none] := by
  have inner : ∀ x : Int, evLc [.pl 0] kSeq (.nm 1) [1] (tvOf (evPm (pm2 fLt) [.pl 1, .pl 2])) (evVar 1) [some (.sh (.list (ns.map .int))), none, some (.sh (.int x))] = .ok (.ow (.list ((ns.filter fun y => decide (y < x)).map .int))) [some (.sh (.list (ns.map .int))), none, some (.sh (.int x))] := fun x => by
    have q := evLc_filter (os := [.pl 0]) (mk := kSeq) (t := .nm 1) (vs := [1]) (tt := tvOf (evPm (pm2 fLt) [.pl 1, .pl 2])) (te := evVar 1) (ρ := [some (.sh (.list (ns.map .int))), none, some (.sh (.int x))]) (ρ2 := [some (.sh (.list (ns.map .int))), none, some (.sh (.int x))]) (ρ3 := [some (.sh (.list (ns.map .int))), none, some (.sh (.int x))]) (items := ns.map .int) (fun d => match d with
      | .int y => decide (y < x)
      | _ => false) id rfl rfl rfl rfl (by simp; omega) rfl (fun d hd => by
        obtain ⟨y, hy, rfl⟩ := List.mem_map.mp hd
        refine ⟨[some (.sh (.list (ns.map .int))), some (.sh (.int y)), some (.sh (.int x))], [some (.sh (.list (ns.map .int))), some (.sh (.int y)), some (.sh (.int x))], rfl, ?_, fun _ => ⟨.sh (.int y), [some (.sh (.list (ns.map .int))), some (.sh (.int y)), some (.sh (.int x))], ?_, rfl, rfl⟩, fun _ => rfl⟩
        · simp [lineN_eq, n64_eq, cdec_iff, mkF, trimO, trimE, keepIo_none, keepIo_sh, keepIo_ow, keepIo_io, keepIo_lk, keepIo_ex, entry, sSeq, sNil, sRet, sIf, sEx, sAsg, sSet, sRaise, sPar, evRs, bindRs, bindR, evC, evVar, evMv, evPm, evOs, evO, looks, look, pm1, pm2, evAnd, evOr, evNot, evIf, boolR, tvOf, tvAnd, tvOr, tvNot, truthD, Res.d, Sl.d, putR, free_none, free_sh, free_ow, free_ex, free_io, free_lk, Res.sl, pLen, pList, pTuple, pInt, pMax2, pMin2, pTup, pLst, pIsi, pIsiT, tyD, isTy, evCall, argSls, argSl, apart, clash, backA, Sl.wr, Sl.to, evMut, fEqX_int, fNeX_int, fEqX_str, fNeX_str, fIx, fCmp, fAdd, fInt, fIntC, mSet, powB, isL, evIntK, evCh, evInt, fIs, fIsN, isNone_none, isNone_bool, isNone_int, isNone_str, isNone_list, isNone_tuple, evMeth, fNeg]
        · simp [lineN_eq, n64_eq, cdec_iff, mkF, trimO, trimE, keepIo_none, keepIo_sh, keepIo_ow, keepIo_io, keepIo_lk, keepIo_ex, entry, sSeq, sNil, sRet, sIf, sEx, sAsg, sSet, sRaise, sPar, evRs, bindRs, bindR, evC, evVar, evMv, evPm, evOs, evO, looks, look, pm1, pm2, evAnd, evOr, evNot, evIf, boolR, tvOf, tvAnd, tvOr, tvNot, truthD, Res.d, Sl.d, putR, free_none, free_sh, free_ow, free_ex, free_io, free_lk, Res.sl, pLen, pList, pTuple, pInt, pMax2, pMin2, pTup, pLst, pIsi, pIsiT, tyD, isTy, evCall, argSls, argSl, apart, clash, backA, Sl.wr, Sl.to, evMut, fEqX_int, fNeX_int, fEqX_str, fNeX_str, fIx, fCmp, fAdd, fInt, fIntC, mSet, powB, isL, evIntK, evCh, evInt, fIs, fIsN, isNone_none, isNone_bool, isNone_int, isNone_str, isNone_list, isNone_tuple, evMeth, fNeg]) rfl
    rw [q, List.map_id, List.filter_map]
    first | done | rfl
  have lc : evLc [.pl 0] kSeq (.nm 2) [2] tvYes e__law_stands_1 [some (.sh (.list (ns.map .int))), none, none] = .ok (.ow (.list (DN (rk ns)))) [some (.sh (.list (ns.map .int))), none, none] := by
    rw [← rk_D]
    refine evLc_map (ρ2 := [some (.sh (.list (ns.map .int))), none, none]) _ rfl rfl rfl rfl (by simp; omega) rfl (fun d hd => ?_) rfl
    obtain ⟨x, hx, rfl⟩ := List.mem_map.mp hd
    refine ⟨[some (.sh (.list (ns.map .int))), none, some (.sh (.int x))], rfl, .sh _, [some (.sh (.list (ns.map .int))), none, some (.sh (.int x))], ?_, rfl, rfl⟩
    simp [lineN_eq, n64_eq, cdec_iff, mkF, trimO, trimE, keepIo_none, keepIo_sh, keepIo_ow, keepIo_io, keepIo_lk, keepIo_ex, entry, sSeq, sNil, sRet, sIf, sEx, sAsg, sSet, sRaise, sPar, evRs, bindRs, bindR, evC, evVar, evMv, evPm, evOs, evO, looks, look, pm1, pm2, evAnd, evOr, evNot, evIf, boolR, tvOf, tvAnd, tvOr, tvNot, truthD, Res.d, Sl.d, putR, free_none, free_sh, free_ow, free_ex, free_io, free_lk, Res.sl, pLen, pList, pTuple, pInt, pMax2, pMin2, pTup, pLst, pIsi, pIsiT, tyD, isTy, evCall, argSls, argSl, apart, clash, backA, Sl.wr, Sl.to, evMut, fEqX_int, fNeX_int, fEqX_str, fNeX_str, fIx, fCmp, fAdd, fInt, fIntC, mSet, powB, isL, evIntK, evCh, evInt, fIs, fIsN, isNone_none, isNone_bool, isNone_int, isNone_str, isNone_list, isNone_tuple, evMeth, fNeg, e__law_stands_1, inner]
  simp [lineN_eq, n64_eq, cdec_iff, mkF, trimO, trimE, keepIo_none, keepIo_sh, keepIo_ow, keepIo_io, keepIo_lk, keepIo_ex, entry, sSeq, sNil, sRet, sIf, sEx, sAsg, sSet, sRaise, sPar, evRs, bindRs, bindR, evC, evVar, evMv, evPm, evOs, evO, looks, look, pm1, pm2, evAnd, evOr, evNot, evIf, boolR, tvOf, tvAnd, tvOr, tvNot, truthD, Res.d, Sl.d, putR, free_none, free_sh, free_ow, free_ex, free_io, free_lk, Res.sl, pLen, pList, pTuple, pInt, pMax2, pMin2, pTup, pLst, pIsi, pIsiT, tyD, isTy, evCall, argSls, argSl, apart, clash, backA, Sl.wr, Sl.to, evMut, fEqX_int, fNeX_int, fEqX_str, fNeX_str, fIx, fCmp, fAdd, fInt, fIntC, mSet, powB, isL, evIntK, evCh, evInt, fIs, fIsN, isNone_none, isNone_bool, isNone_int, isNone_str, isNone_list, isNone_tuple, evMeth, fNeg, F__law_stands, ev__law_stands, LI, lc]
/-! the program's search -/
def QD (q : Quad) : PyData := .tuple [.int q.1, .int q.2.1, .int q.2.2.1, .int q.2.2.2]
theorem ix_D {o : List Int} {k : Nat} (h : k < o.length) : atI (o.map PyData.int) (k : Int) = some (.int (o.getD k 0)) := by
  exact L2.atI_nat (by simp [h])
abbrev E10 (o : List Int) (n i j k l : Nat) (x6 x7 : Option Sl) : Ev.Env := [some (.sh (.tuple (o.map .int))), some (.sh (.int n)), some (.sh (.int i)), some (.sh (.int j)), some (.sh (.int k)), some (.sh (.int l)), x6, x7, none, none]
theorem val4_nodup {o : List Int} (nd : o.Nodup) {q : Quad} (u : Up o.length q) : (val4 o q).Nodup := by
  obtain ⟨i, j, k, l⟩ := q
  obtain ⟨u1, u2, u3, u4⟩ := u
  simp only at u1 u2 u3 u4
  have at_ : ∀ i (h : i < o.length), o.getD i 0 = o[i] := fun i h => by simp [h]
  have inj : ∀ x y, x < o.length → y < o.length → x ≠ y → o.getD x 0 ≠ o.getD y 0 := fun x y hx hy hn e => by
    rw [at_ x hx, at_ y hy] at e
    exact hn ((List.getElem_inj nd).mp e)
  simp only [val4, List.nodup_cons, List.mem_cons, List.not_mem_nil, or_false, not_or, List.nodup_nil, and_true, not_false_eq_true]
  exact ⟨⟨inj _ _ (by omega) (by omega) (by omega), inj _ _ (by omega) (by omega) (by omega), inj _ _ (by omega) (by omega) (by omega)⟩, ⟨inj _ _ (by omega) (by omega) (by omega), inj _ _ (by omega) (by omega) (by omega)⟩, inj _ _ (by omega) (by omega) (by omega)⟩
theorem vals_lc {o : List Int} {i j k l : Nat} (u : Up o.length (i, j, k, l)) (n : Nat) (x7 : Option Sl) : evLc [.pl 6] kSeq (.nm 8) [8] tvYes (evPm (pm2 fIx) [.pl 0, .pl 8]) (E10 o n i j k l (some (.sh (QD (i, j, k, l)))) x7) = .ok (.ow (.list ((val4 o (i, j, k, l)).map .int))) (E10 o n i j k l (some (.sh (QD (i, j, k, l)))) x7) := by
  obtain ⟨u1, u2, u3, u4⟩ := u
  simp only at u1 u2 u3 u4
  have q := evLc_map (os := [.pl 6]) (mk := kSeq) (t := .nm 8) (vs := [8]) (te := evPm (pm2 fIx) [.pl 0, .pl 8]) (ρ := E10 o n i j k l (some (.sh (QD (i, j, k, l)))) x7) (ρ2 := E10 o n i j k l (some (.sh (QD (i, j, k, l)))) x7) (ρ3 := E10 o n i j k l (some (.sh (QD (i, j, k, l)))) x7) (items := [.int i, .int j, .int k, .int l]) (fun d => match d with
    | .int m => .int (o.getD m.toNat 0)
    | _ => .none) rfl rfl rfl rfl (by simp) rfl (fun d hd => by
      have key : ∀ m : Nat, m < o.length → ∃ ρa, bindT (.nm 8) (.int m) (E10 o n i j k l (some (.sh (QD (i, j, k, l)))) x7) = some ρa ∧ ∃ r ρb, evPm (pm2 fIx) [.pl 0, .pl 8] ρa = .ok r ρb ∧ r.d = .int (o.getD m 0) ∧ wipeE ρb [8] = E10 o n i j k l (some (.sh (QD (i, j, k, l)))) x7 := fun m hm => by
        refine ⟨[some (.sh (.tuple (o.map .int))), some (.sh (.int n)), some (.sh (.int i)), some (.sh (.int j)), some (.sh (.int k)), some (.sh (.int l)), some (.sh (QD (i, j, k, l))), x7, some (.sh (.int m)), none], rfl, .sh (.int (o.getD m 0)), [some (.sh (.tuple (o.map .int))), some (.sh (.int n)), some (.sh (.int i)), some (.sh (.int j)), some (.sh (.int k)), some (.sh (.int l)), some (.sh (QD (i, j, k, l))), x7, some (.sh (.int m)), none], ?_, rfl, rfl⟩
        have := ix_D hm
        simp [lineN_eq, n64_eq, cdec_iff, mkF, trimO, trimE, keepIo_none, keepIo_sh, keepIo_ow, keepIo_io, keepIo_lk, keepIo_ex, entry, sSeq, sNil, sRet, sIf, sEx, sAsg, sSet, sRaise, sPar, evRs, bindRs, bindR, evC, evVar, evMv, evPm, evOs, evO, looks, look, pm1, pm2, evAnd, evOr, evNot, evIf, boolR, tvOf, tvAnd, tvOr, tvNot, truthD, Res.d, Sl.d, putR, free_none, free_sh, free_ow, free_ex, free_io, free_lk, Res.sl, pLen, pList, pTuple, pInt, pMax2, pMin2, pTup, pLst, pIsi, pIsiT, tyD, isTy, evCall, argSls, argSl, apart, clash, backA, Sl.wr, Sl.to, evMut, fEqX_int, fNeX_int, fEqX_str, fNeX_str, fIx, fCmp, fAdd, fInt, fIntC, mSet, powB, isL, evIntK, evCh, evInt, fIs, fIsN, isNone_none, isNone_bool, isNone_int, isNone_str, isNone_list, isNone_tuple, evMeth, fNeg, this]
      simp only [List.mem_cons, List.not_mem_nil, or_false] at hd
      rcases hd with rfl | rfl | rfl | rfl
      · exact key i (by omega)
      · exact key j (by omega)
      · exact key k (by omega)
      · exact key l (by omega)) rfl
  rw [q]
  rfl
theorem any_eq {o : List Int} (nd : o.Nodup) {i j k l : Nat} (u : Up o.length (i, j, k, l)) (n : Nat) : evPm pAny [.ex (evLc [.ex (evC c_BARS)] kSeq (.nm 9) [9] (tvYes) (evCall F_stands_so [.pl 7, .pl 9]))] (E10 o n i j k l (some (.sh (QD (i, j, k, l)))) (some (.ow (.list ((val4 o (i, j, k, l)).map .int))))) =
    .ok (.sh (.bool (isBar o (i, j, k, l)))) (E10 o n i j k l (some (.sh (QD (i, j, k, l)))) (some (.ow (.list ((val4 o (i, j, k, l)).map .int))))) := by
  have v := val4_nodup nd u
  have q := evLc_of (os := [.ex (evC c_BARS)]) (mk := kSeq) (t := .nm 9) (vs := [9]) (tt := tvYes) (te := evCall F_stands_so [.pl 7, .pl 9]) (ρ := E10 o n i j k l (some (.sh (QD (i, j, k, l)))) (some (.ow (.list ((val4 o (i, j, k, l)).map .int))))) (ρ2 := E10 o n i j k l (some (.sh (QD (i, j, k, l)))) (some (.ow (.list ((val4 o (i, j, k, l)).map .int))))) (ρ3 := E10 o n i j k l (some (.sh (QD (i, j, k, l)))) (some (.ow (.list ((val4 o (i, j, k, l)).map .int)))))
    (acc := [.bool (decide (rk (val4 o (i, j, k, l)) = [1, 3, 0, 2])), .bool (decide (rk (val4 o (i, j, k, l)) = [2, 0, 3, 1]))]) (items := [.tuple (DN [1, 3, 0, 2]), .tuple (DN [2, 0, 3, 1])]) rfl rfl rfl rfl (by simp) (by
      have s1 := stands_eq v (by simp [val4]) [1, 3, 0, 2]
      have s2 := stands_eq v (by simp [val4]) [2, 0, 3, 1]
      unfold LI at s1 s2
      simp [lineN_eq, n64_eq, cdec_iff, mkF, trimO, trimE, keepIo_none, keepIo_sh, keepIo_ow, keepIo_io, keepIo_lk, keepIo_ex, entry, sSeq, sNil, sRet, sIf, sEx, sAsg, sSet, sRaise, sPar, evRs, bindRs, bindR, evC, evVar, evMv, evPm, evOs, evO, looks, look, pm1, pm2, evAnd, evOr, evNot, evIf, boolR, tvOf, tvAnd, tvOr, tvNot, truthD, Res.d, Sl.d, putR, free_none, free_sh, free_ow, free_ex, free_io, free_lk, Res.sl, pLen, pList, pTuple, pInt, pMax2, pMin2, pTup, pLst, pIsi, pIsiT, tyD, isTy, evCall, argSls, argSl, apart, clash, backA, Sl.wr, Sl.to, evMut, fEqX_int, fNeX_int, fEqX_str, fNeX_str, fIx, fCmp, fAdd, fInt, fIntC, mSet, powB, isL, evIntK, evCh, evInt, fIs, fIsN, isNone_none, isNone_bool, isNone_int, isNone_str, isNone_list, isNone_tuple, evMeth, fNeg, evLc, calmB, lks, Arg.lk, lock1, wipeE, bindT, restE, keepSh, uns, Arg.un, unlk1, tvYes, lcGo, s1, s2]) rfl
  simp [lineN_eq, n64_eq, cdec_iff, mkF, trimO, trimE, keepIo_none, keepIo_sh, keepIo_ow, keepIo_io, keepIo_lk, keepIo_ex, entry, sSeq, sNil, sRet, sIf, sEx, sAsg, sSet, sRaise, sPar, evRs, bindRs, bindR, evC, evVar, evMv, evPm, evOs, evO, looks, look, pm1, pm2, evAnd, evOr, evNot, evIf, boolR, tvOf, tvAnd, tvOr, tvNot, truthD, Res.d, Sl.d, putR, free_none, free_sh, free_ow, free_ex, free_io, free_lk, Res.sl, pLen, pList, pTuple, pInt, pMax2, pMin2, pTup, pLst, pIsi, pIsiT, tyD, isTy, evCall, argSls, argSl, apart, clash, backA, Sl.wr, Sl.to, evMut, fEqX_int, fNeX_int, fEqX_str, fNeX_str, fIx, fCmp, fAdd, fInt, fIntC, mSet, powB, isL, evIntK, evCh, evInt, fIs, fIsN, isNone_none, isNone_bool, isNone_int, isNone_str, isNone_list, isNone_tuple, evMeth, fNeg, q, pAny, blsD, isBar]
theorem bar1_eq {o : List Int} (nd : o.Nodup) {i j k l : Nat} (u : Up o.length (i, j, k, l)) (n : Nat) (x6 x7 : Option Sl) (f6 : Sl.free x6 = true) (f7 : Sl.free x7 = true) :
    b_bar_1 (E10 o n i j k l x6 x7) = if isBar o (i, j, k, l) = true then .ret (.sh (QD (i, j, k, l))) (E10 o n i j k l (some (.sh (QD (i, j, k, l)))) (some (.ow (.list ((val4 o (i, j, k, l)).map .int))))) else .next (E10 o n i j k l (some (.sh (QD (i, j, k, l)))) (some (.ow (.list ((val4 o (i, j, k, l)).map .int))))) := by
  have a := any_eq nd u n
  have v := vals_lc u n x7
  have g1 : sAsg 6 (evPm pTup ([evVar 2, evVar 3, evVar 4, evVar 5].map .ex)) (E10 o n i j k l x6 x7) = .next (E10 o n i j k l (some (.sh (QD (i, j, k, l)))) x7) := by
    simp [lineN_eq, n64_eq, cdec_iff, mkF, trimO, trimE, keepIo_none, keepIo_sh, keepIo_ow, keepIo_io, keepIo_lk, keepIo_ex, entry, sSeq, sNil, sRet, sIf, sEx, sAsg, sSet, sRaise, sPar, evRs, bindRs, bindR, evC, evVar, evMv, evPm, evOs, evO, looks, look, pm1, pm2, evAnd, evOr, evNot, evIf, boolR, tvOf, tvAnd, tvOr, tvNot, truthD, Res.d, Sl.d, putR, free_none, free_sh, free_ow, free_ex, free_io, free_lk, Res.sl, pLen, pList, pTuple, pInt, pMax2, pMin2, pTup, pLst, pIsi, pIsiT, tyD, isTy, evCall, argSls, argSl, apart, clash, backA, Sl.wr, Sl.to, evMut, fEqX_int, fNeX_int, fEqX_str, fNeX_str, fIx, fCmp, fAdd, fInt, fIntC, mSet, powB, isL, evIntK, evCh, evInt, fIs, fIsN, isNone_none, isNone_bool, isNone_int, isNone_str, isNone_list, isNone_tuple, evMeth, fNeg, f6, QD]
  have g2 : sAsg 7 (evLc [.pl 6] kSeq (.nm 8) [8] (tvYes) (evPm (pm2 fIx) [.pl 0, .pl 8])) (E10 o n i j k l (some (.sh (QD (i, j, k, l)))) x7) = .next (E10 o n i j k l (some (.sh (QD (i, j, k, l)))) (some (.ow (.list ((val4 o (i, j, k, l)).map .int))))) := by
    unfold sAsg
    rw [v]
    simp [lineN_eq, n64_eq, cdec_iff, mkF, trimO, trimE, keepIo_none, keepIo_sh, keepIo_ow, keepIo_io, keepIo_lk, keepIo_ex, entry, sSeq, sNil, sRet, sIf, sEx, sAsg, sSet, sRaise, sPar, evRs, bindRs, bindR, evC, evVar, evMv, evPm, evOs, evO, looks, look, pm1, pm2, evAnd, evOr, evNot, evIf, boolR, tvOf, tvAnd, tvOr, tvNot, truthD, Res.d, Sl.d, putR, free_none, free_sh, free_ow, free_ex, free_io, free_lk, Res.sl, pLen, pList, pTuple, pInt, pMax2, pMin2, pTup, pLst, pIsi, pIsiT, tyD, isTy, evCall, argSls, argSl, apart, clash, backA, Sl.wr, Sl.to, evMut, fEqX_int, fNeX_int, fEqX_str, fNeX_str, fIx, fCmp, fAdd, fInt, fIntC, mSet, powB, isL, evIntK, evCh, evInt, fIs, fIsN, isNone_none, isNone_bool, isNone_int, isNone_str, isNone_list, isNone_tuple, evMeth, fNeg, f7]
  unfold b_bar_1
  rw [sSeq_next g1, sSeq_next g2]
  have g3 : tvOf (evPm pAny [.ex (evLc [.ex (evC c_BARS)] kSeq (.nm 9) [9] (tvYes) (evCall F_stands_so [.pl 7, .pl 9]))]) (E10 o n i j k l (some (.sh (QD (i, j, k, l)))) (some (.ow (.list ((val4 o (i, j, k, l)).map .int))))) = .ok (isBar o (i, j, k, l)) (E10 o n i j k l (some (.sh (QD (i, j, k, l)))) (some (.ow (.list ((val4 o (i, j, k, l)).map .int))))) := by
    unfold tvOf
    rw [a]
    rfl
  unfold sIf
  rw [g3]
  cases isBar o (i, j, k, l) <;> rfl
def shQ (q : Quad) : Res := .sh (QD q)
theorem fnd_map (n a : Nat) (g : Nat → Option Quad) : ((List.range' a (n - a)).findSome? fun x => (g x).map shQ) = (fnd n a g).map shQ := by
  have := List.map_findSome? (l := List.range' a (n - a)) (f := g) (g := shQ)
  unfold fnd
  rw [this]
  rfl
abbrev E5 (o : List Int) (x2 x3 x4 x5 x6 x7 : Option Sl) : Ev.Env := [some (.sh (.tuple (o.map .int))), some (.sh (.int o.length)), x2, x3, x4, x5, x6, x7, none, none]
theorem rng_ge {n a i : Nat} (h : i ∈ List.range' a (n - a)) : a ≤ i ∧ i < n := by
  simp [List.mem_range'] at h
  obtain ⟨m, hm, rfl⟩ := h
  omega
theorem kR2' {m n : Nat} (h : n ≤ 1000) (hm : m ≤ 1000) : kRange2 [.int ((m : Int) + 1), .int (n : Int)] = some ((List.range' (m + 1) (n - (m + 1))).map fun i : Nat => .int (i : Int)) := by
  have := kR2 (m := m + 1) (n := n) (by omega) (by omega)
  rw [rgI_map] at this
  simpa using this
theorem bar2_eq {o : List Int} (hl : o.length ≤ 100) (nd : o.Nodup) {i j k : Nat} (h1 : i < j) (h2 : j < k) (h3 : k < o.length) (x5 x6 x7 : Option Sl) (f5 : Sl.free x5 = true) (f6 : Sl.free x6 = true) (f7 : Sl.free x7 = true) : match (fnd4 o o.length i j k).map shQ with
    | some r => ∃ ρ2, b_bar_2 (E5 o (some (.sh (.int i))) (some (.sh (.int j))) (some (.sh (.int k))) x5 x6 x7) = .ret r ρ2 ∧ trimE ρ2 = [none, none, none, none, none, none, none, none, none, none]
    | none => ∃ ρ2, b_bar_2 (E5 o (some (.sh (.int i))) (some (.sh (.int j))) (some (.sh (.int k))) x5 x6 x7) = .next ρ2 ∧ ∃ y5 y6 y7, Sl.free y5 = true ∧ Sl.free y6 = true ∧ Sl.free y7 = true ∧ ρ2 = E5 o (some (.sh (.int i))) (some (.sh (.int j))) (some (.sh (.int k))) y5 y6 y7 := by
  have go := forGo_find (t := .nm 5) (body := b_bar_1) (fun i : Nat => .int (i : Int)) (fun ρ => ∃ y5 y6 y7, Sl.free y5 = true ∧ Sl.free y6 = true ∧ Sl.free y7 = true ∧ ρ = E5 o (some (.sh (.int i))) (some (.sh (.int j))) (some (.sh (.int k))) y5 y6 y7)
    (fun ρ => trimE ρ = [none, none, none, none, none, none, none, none, none, none]) (fun l => (if isBar o (i, j, k, l) = true then some (i, j, k, l) else none).map shQ) (List.range' (k + 1) (o.length - (k + 1))) (E5 o (some (.sh (.int i))) (some (.sh (.int j))) (some (.sh (.int k))) x5 x6 x7) ⟨_, _, _, f5, f6, f7, rfl⟩ fun l hl ρ ⟨y5, y6, y7, g5, g6, g7, e⟩ => by
      subst e
      obtain ⟨l1, l2⟩ := rng_ge hl
      refine ⟨E10 o o.length i j k l y6 y7, by simp [lineN_eq, n64_eq, cdec_iff, mkF, trimO, trimE, keepIo_none, keepIo_sh, keepIo_ow, keepIo_io, keepIo_lk, keepIo_ex, entry, sSeq, sNil, sRet, sIf, sEx, sAsg, sSet, sRaise, sPar, evRs, bindRs, bindR, evC, evVar, evMv, evPm, evOs, evO, looks, look, pm1, pm2, evAnd, evOr, evNot, evIf, boolR, tvOf, tvAnd, tvOr, tvNot, truthD, Res.d, Sl.d, putR, free_none, free_sh, free_ow, free_ex, free_io, free_lk, Res.sl, pLen, pList, pTuple, pInt, pMax2, pMin2, pTup, pLst, pIsi, pIsiT, tyD, isTy, evCall, argSls, argSl, apart, clash, backA, Sl.wr, Sl.to, evMut, fEqX_int, fNeX_int, fEqX_str, fNeX_str, fIx, fCmp, fAdd, fInt, fIntC, mSet, powB, isL, evIntK, evCh, evInt, fIs, fIsN, isNone_none, isNone_bool, isNone_int, isNone_str, isNone_list, isNone_tuple, evMeth, fNeg, evLc, calmB, lks, Arg.lk, lock1, wipeE, bindT, restE, keepSh, uns, Arg.un, unlk1, tvYes, g5], ?_⟩
      have b := bar1_eq nd (i := i) (j := j) (k := k) (l := l) ⟨h1, h2, by simp; omega, l2⟩ o.length y6 y7 g6 g7
      by_cases c : isBar o (i, j, k, l) = true
      · rw [if_pos c] at b ⊢
        exact ⟨_, b, by simp [trimE, keepIo]⟩
      · rw [if_neg c] at b ⊢
        exact ⟨_, b, _, _, _, rfl, rfl, rfl, rfl⟩
  rw [fnd_map] at go
  change match (fnd4 o o.length i j k).map shQ with
    | some r => _
    | none => _ at go
  have e1 : evOs [.ex (evPm (pm2 fAdd) [.pl 4, .ex (evC (.int 1))]), .pl 1] (E5 o (some (.sh (.int i))) (some (.sh (.int j))) (some (.sh (.int k))) x5 x6 x7) = .ok [.sh (.int ((k : Int) + 1)), .pl 1] (E5 o (some (.sh (.int i))) (some (.sh (.int j))) (some (.sh (.int k))) x5 x6 x7) := by simp [lineN_eq, n64_eq, cdec_iff, mkF, trimO, trimE, keepIo_none, keepIo_sh, keepIo_ow, keepIo_io, keepIo_lk, keepIo_ex, entry, sSeq, sNil, sRet, sIf, sEx, sAsg, sSet, sRaise, sPar, evRs, bindRs, bindR, evC, evVar, evMv, evPm, evOs, evO, looks, look, pm1, pm2, evAnd, evOr, evNot, evIf, boolR, tvOf, tvAnd, tvOr, tvNot, truthD, Res.d, Sl.d, putR, free_none, free_sh, free_ow, free_ex, free_io, free_lk, Res.sl, pLen, pList, pTuple, pInt, pMax2, pMin2, pTup, pLst, pIsi, pIsiT, tyD, isTy, evCall, argSls, argSl, apart, clash, backA, Sl.wr, Sl.to, evMut, fEqX_int, fNeX_int, fEqX_str, fNeX_str, fIx, fCmp, fAdd, fInt, fIntC, mSet, powB, isL, evIntK, evCh, evInt, fIs, fIsN, isNone_none, isNone_bool, isNone_int, isNone_str, isNone_list, isNone_tuple, evMeth, fNeg]
  cases f : (fnd4 o o.length i j k).map shQ with
  | some r =>
    rw [f] at go
    obtain ⟨ρ2, a1, a2⟩ := go
    exact ⟨ρ2, evFor_ret e1 rfl (kR2' (by omega) (by omega)) a1 rfl, a2⟩
  | none =>
    rw [f] at go
    obtain ⟨ρ2, a1, y5, y6, y7, g5, g6, g7, rfl⟩ := go
    exact ⟨_, evFor_next e1 rfl (kR2' (by omega) (by omega)) a1 rfl, y5, y6, y7, g5, g6, g7, rfl⟩
theorem bar3_eq {o : List Int} (hl : o.length ≤ 100) (nd : o.Nodup) {i j : Nat} (h1 : i < j) (h2 : j < o.length) (x4 x5 x6 x7 : Option Sl) (f4 : Sl.free x4 = true) (f5 : Sl.free x5 = true) (f6 : Sl.free x6 = true) (f7 : Sl.free x7 = true) : match (fnd3 o o.length i j).map shQ with
    | some r => ∃ ρ2, b_bar_3 (E5 o (some (.sh (.int i))) (some (.sh (.int j))) x4 x5 x6 x7) = .ret r ρ2 ∧ trimE ρ2 = [none, none, none, none, none, none, none, none, none, none]
    | none => ∃ ρ2, b_bar_3 (E5 o (some (.sh (.int i))) (some (.sh (.int j))) x4 x5 x6 x7) = .next ρ2 ∧ ∃ y4 y5 y6 y7, Sl.free y4 = true ∧ Sl.free y5 = true ∧ Sl.free y6 = true ∧ Sl.free y7 = true ∧ ρ2 = E5 o (some (.sh (.int i))) (some (.sh (.int j))) y4 y5 y6 y7 := by
  have go := forGo_find (t := .nm 4) (body := b_bar_2) (fun i : Nat => .int (i : Int)) (fun ρ => ∃ y4 y5 y6 y7, Sl.free y4 = true ∧ Sl.free y5 = true ∧ Sl.free y6 = true ∧ Sl.free y7 = true ∧ ρ = E5 o (some (.sh (.int i))) (some (.sh (.int j))) y4 y5 y6 y7)
    (fun ρ => trimE ρ = [none, none, none, none, none, none, none, none, none, none]) (fun k => (fnd4 o o.length i j k).map shQ) (List.range' (j + 1) (o.length - (j + 1))) (E5 o (some (.sh (.int i))) (some (.sh (.int j))) x4 x5 x6 x7) ⟨_, _, _, _, f4, f5, f6, f7, rfl⟩ fun k hk ρ ⟨y4, y5, y6, y7, g4, g5, g6, g7, e⟩ => by
      subst e
      obtain ⟨l1, l2⟩ := rng_ge hk
      refine ⟨E5 o (some (.sh (.int i))) (some (.sh (.int j))) (some (.sh (.int k))) y5 y6 y7, by simp [lineN_eq, n64_eq, cdec_iff, mkF, trimO, trimE, keepIo_none, keepIo_sh, keepIo_ow, keepIo_io, keepIo_lk, keepIo_ex, entry, sSeq, sNil, sRet, sIf, sEx, sAsg, sSet, sRaise, sPar, evRs, bindRs, bindR, evC, evVar, evMv, evPm, evOs, evO, looks, look, pm1, pm2, evAnd, evOr, evNot, evIf, boolR, tvOf, tvAnd, tvOr, tvNot, truthD, Res.d, Sl.d, putR, free_none, free_sh, free_ow, free_ex, free_io, free_lk, Res.sl, pLen, pList, pTuple, pInt, pMax2, pMin2, pTup, pLst, pIsi, pIsiT, tyD, isTy, evCall, argSls, argSl, apart, clash, backA, Sl.wr, Sl.to, evMut, fEqX_int, fNeX_int, fEqX_str, fNeX_str, fIx, fCmp, fAdd, fInt, fIntC, mSet, powB, isL, evIntK, evCh, evInt, fIs, fIsN, isNone_none, isNone_bool, isNone_int, isNone_str, isNone_list, isNone_tuple, evMeth, fNeg, evLc, calmB, lks, Arg.lk, lock1, wipeE, bindT, restE, keepSh, uns, Arg.un, unlk1, tvYes, g4], ?_⟩
      have b := bar2_eq hl nd (i := i) (j := j) (k := k) h1 (by omega) l2 y5 y6 y7 g5 g6 g7
      cases f : (fnd4 o o.length i j k).map shQ with
      | some r => rw [f] at b; exact b
      | none =>
        rw [f] at b
        obtain ⟨ρ2, b1, z5, z6, z7, k5, k6, k7, rfl⟩ := b
        exact ⟨_, b1, _, _, _, _, rfl, k5, k6, k7, rfl⟩
  rw [fnd_map] at go
  change match (fnd3 o o.length i j).map shQ with
    | some r => _
    | none => _ at go
  have e1 : evOs [.ex (evPm (pm2 fAdd) [.pl 3, .ex (evC (.int 1))]), .pl 1] (E5 o (some (.sh (.int i))) (some (.sh (.int j))) x4 x5 x6 x7) = .ok [.sh (.int ((j : Int) + 1)), .pl 1] (E5 o (some (.sh (.int i))) (some (.sh (.int j))) x4 x5 x6 x7) := by simp [lineN_eq, n64_eq, cdec_iff, mkF, trimO, trimE, keepIo_none, keepIo_sh, keepIo_ow, keepIo_io, keepIo_lk, keepIo_ex, entry, sSeq, sNil, sRet, sIf, sEx, sAsg, sSet, sRaise, sPar, evRs, bindRs, bindR, evC, evVar, evMv, evPm, evOs, evO, looks, look, pm1, pm2, evAnd, evOr, evNot, evIf, boolR, tvOf, tvAnd, tvOr, tvNot, truthD, Res.d, Sl.d, putR, free_none, free_sh, free_ow, free_ex, free_io, free_lk, Res.sl, pLen, pList, pTuple, pInt, pMax2, pMin2, pTup, pLst, pIsi, pIsiT, tyD, isTy, evCall, argSls, argSl, apart, clash, backA, Sl.wr, Sl.to, evMut, fEqX_int, fNeX_int, fEqX_str, fNeX_str, fIx, fCmp, fAdd, fInt, fIntC, mSet, powB, isL, evIntK, evCh, evInt, fIs, fIsN, isNone_none, isNone_bool, isNone_int, isNone_str, isNone_list, isNone_tuple, evMeth, fNeg]
  cases f : (fnd3 o o.length i j).map shQ with
  | some r =>
    rw [f] at go
    obtain ⟨ρ2, a1, a2⟩ := go
    exact ⟨ρ2, evFor_ret e1 rfl (kR2' (by omega) (by omega)) a1 rfl, a2⟩
  | none =>
    rw [f] at go
    obtain ⟨ρ2, a1, y4, y5, y6, y7, g4, g5, g6, g7, rfl⟩ := go
    exact ⟨_, evFor_next e1 rfl (kR2' (by omega) (by omega)) a1 rfl, y4, y5, y6, y7, g4, g5, g6, g7, rfl⟩
theorem bar4_eq {o : List Int} (hl : o.length ≤ 100) (nd : o.Nodup) {i : Nat} (h1 : i < o.length) (x3 x4 x5 x6 x7 : Option Sl) (f3 : Sl.free x3 = true) (f4 : Sl.free x4 = true) (f5 : Sl.free x5 = true) (f6 : Sl.free x6 = true) (f7 : Sl.free x7 = true) : match (fnd2 o o.length i).map shQ with
    | some r => ∃ ρ2, b_bar_4 (E5 o (some (.sh (.int i))) x3 x4 x5 x6 x7) = .ret r ρ2 ∧ trimE ρ2 = [none, none, none, none, none, none, none, none, none, none]
    | none => ∃ ρ2, b_bar_4 (E5 o (some (.sh (.int i))) x3 x4 x5 x6 x7) = .next ρ2 ∧ ∃ y3 y4 y5 y6 y7, Sl.free y3 = true ∧ Sl.free y4 = true ∧ Sl.free y5 = true ∧ Sl.free y6 = true ∧ Sl.free y7 = true ∧ ρ2 = E5 o (some (.sh (.int i))) y3 y4 y5 y6 y7 := by
  have go := forGo_find (t := .nm 3) (body := b_bar_3) (fun i : Nat => .int (i : Int)) (fun ρ => ∃ y3 y4 y5 y6 y7, Sl.free y3 = true ∧ Sl.free y4 = true ∧ Sl.free y5 = true ∧ Sl.free y6 = true ∧ Sl.free y7 = true ∧ ρ = E5 o (some (.sh (.int i))) y3 y4 y5 y6 y7)
    (fun ρ => trimE ρ = [none, none, none, none, none, none, none, none, none, none]) (fun j => (fnd3 o o.length i j).map shQ) (List.range' (i + 1) (o.length - (i + 1))) (E5 o (some (.sh (.int i))) x3 x4 x5 x6 x7) ⟨_, _, _, _, _, f3, f4, f5, f6, f7, rfl⟩ fun j hj ρ ⟨y3, y4, y5, y6, y7, g3, g4, g5, g6, g7, e⟩ => by
      subst e
      obtain ⟨l1, l2⟩ := rng_ge hj
      refine ⟨E5 o (some (.sh (.int i))) (some (.sh (.int j))) y4 y5 y6 y7, by simp [lineN_eq, n64_eq, cdec_iff, mkF, trimO, trimE, keepIo_none, keepIo_sh, keepIo_ow, keepIo_io, keepIo_lk, keepIo_ex, entry, sSeq, sNil, sRet, sIf, sEx, sAsg, sSet, sRaise, sPar, evRs, bindRs, bindR, evC, evVar, evMv, evPm, evOs, evO, looks, look, pm1, pm2, evAnd, evOr, evNot, evIf, boolR, tvOf, tvAnd, tvOr, tvNot, truthD, Res.d, Sl.d, putR, free_none, free_sh, free_ow, free_ex, free_io, free_lk, Res.sl, pLen, pList, pTuple, pInt, pMax2, pMin2, pTup, pLst, pIsi, pIsiT, tyD, isTy, evCall, argSls, argSl, apart, clash, backA, Sl.wr, Sl.to, evMut, fEqX_int, fNeX_int, fEqX_str, fNeX_str, fIx, fCmp, fAdd, fInt, fIntC, mSet, powB, isL, evIntK, evCh, evInt, fIs, fIsN, isNone_none, isNone_bool, isNone_int, isNone_str, isNone_list, isNone_tuple, evMeth, fNeg, evLc, calmB, lks, Arg.lk, lock1, wipeE, bindT, restE, keepSh, uns, Arg.un, unlk1, tvYes, g3], ?_⟩
      have b := bar3_eq hl nd (i := i) (j := j) (by omega) l2 y4 y5 y6 y7 g4 g5 g6 g7
      cases f : (fnd3 o o.length i j).map shQ with
      | some r => rw [f] at b; exact b
      | none =>
        rw [f] at b
        obtain ⟨ρ2, b1, z4, z5, z6, z7, k4, k5, k6, k7, rfl⟩ := b
        exact ⟨_, b1, _, _, _, _, _, rfl, k4, k5, k6, k7, rfl⟩
  rw [fnd_map] at go
  change match (fnd2 o o.length i).map shQ with
    | some r => _
    | none => _ at go
  have e1 : evOs [.ex (evPm (pm2 fAdd) [.pl 2, .ex (evC (.int 1))]), .pl 1] (E5 o (some (.sh (.int i))) x3 x4 x5 x6 x7) = .ok [.sh (.int ((i : Int) + 1)), .pl 1] (E5 o (some (.sh (.int i))) x3 x4 x5 x6 x7) := by simp [lineN_eq, n64_eq, cdec_iff, mkF, trimO, trimE, keepIo_none, keepIo_sh, keepIo_ow, keepIo_io, keepIo_lk, keepIo_ex, entry, sSeq, sNil, sRet, sIf, sEx, sAsg, sSet, sRaise, sPar, evRs, bindRs, bindR, evC, evVar, evMv, evPm, evOs, evO, looks, look, pm1, pm2, evAnd, evOr, evNot, evIf, boolR, tvOf, tvAnd, tvOr, tvNot, truthD, Res.d, Sl.d, putR, free_none, free_sh, free_ow, free_ex, free_io, free_lk, Res.sl, pLen, pList, pTuple, pInt, pMax2, pMin2, pTup, pLst, pIsi, pIsiT, tyD, isTy, evCall, argSls, argSl, apart, clash, backA, Sl.wr, Sl.to, evMut, fEqX_int, fNeX_int, fEqX_str, fNeX_str, fIx, fCmp, fAdd, fInt, fIntC, mSet, powB, isL, evIntK, evCh, evInt, fIs, fIsN, isNone_none, isNone_bool, isNone_int, isNone_str, isNone_list, isNone_tuple, evMeth, fNeg]
  cases f : (fnd2 o o.length i).map shQ with
  | some r =>
    rw [f] at go
    obtain ⟨ρ2, a1, a2⟩ := go
    exact ⟨ρ2, evFor_ret e1 rfl (kR2' (by omega) (by omega)) a1 rfl, a2⟩
  | none =>
    rw [f] at go
    obtain ⟨ρ2, a1, y3, y4, y5, y6, y7, g3, g4, g5, g6, g7, rfl⟩ := go
    exact ⟨_, evFor_next e1 rfl (kR2' (by omega) (by omega)) a1 rfl, y3, y4, y5, y6, y7, g3, g4, g5, g6, g7, rfl⟩
def optQ : Option Quad → PyData
  | some q => QD q
  | none => .none
theorem bar_eq {o : List Int} (hl : o.length ≤ 100) (nd : o.Nodup) : F_bar [.sh (D o)] = .ret (.sh (optQ (fnd1 o o.length))) [none, none, none, none, none, none, none, none, none, none] := by
  have go := forGo_find (t := .nm 2) (body := b_bar_4) (fun i : Nat => .int (i : Int)) (fun ρ => ∃ y2 y3 y4 y5 y6 y7, Sl.free y2 = true ∧ Sl.free y3 = true ∧ Sl.free y4 = true ∧ Sl.free y5 = true ∧ Sl.free y6 = true ∧ Sl.free y7 = true ∧ ρ = E5 o y2 y3 y4 y5 y6 y7)
    (fun ρ => trimE ρ = [none, none, none, none, none, none, none, none, none, none]) (fun i => (fnd2 o o.length i).map shQ) (List.range' 0 (o.length - 0)) (E5 o none none none none none none) ⟨_, _, _, _, _, _, rfl, rfl, rfl, rfl, rfl, rfl, rfl⟩ fun i hi ρ ⟨y2, y3, y4, y5, y6, y7, g2, g3, g4, g5, g6, g7, e⟩ => by
      subst e
      obtain ⟨l1, l2⟩ := rng_ge hi
      refine ⟨E5 o (some (.sh (.int i))) y3 y4 y5 y6 y7, by simp [lineN_eq, n64_eq, cdec_iff, mkF, trimO, trimE, keepIo_none, keepIo_sh, keepIo_ow, keepIo_io, keepIo_lk, keepIo_ex, entry, sSeq, sNil, sRet, sIf, sEx, sAsg, sSet, sRaise, sPar, evRs, bindRs, bindR, evC, evVar, evMv, evPm, evOs, evO, looks, look, pm1, pm2, evAnd, evOr, evNot, evIf, boolR, tvOf, tvAnd, tvOr, tvNot, truthD, Res.d, Sl.d, putR, free_none, free_sh, free_ow, free_ex, free_io, free_lk, Res.sl, pLen, pList, pTuple, pInt, pMax2, pMin2, pTup, pLst, pIsi, pIsiT, tyD, isTy, evCall, argSls, argSl, apart, clash, backA, Sl.wr, Sl.to, evMut, fEqX_int, fNeX_int, fEqX_str, fNeX_str, fIx, fCmp, fAdd, fInt, fIntC, mSet, powB, isL, evIntK, evCh, evInt, fIs, fIsN, isNone_none, isNone_bool, isNone_int, isNone_str, isNone_list, isNone_tuple, evMeth, fNeg, evLc, calmB, lks, Arg.lk, lock1, wipeE, bindT, restE, keepSh, uns, Arg.un, unlk1, tvYes, g2], ?_⟩
      have b := bar4_eq hl nd (i := i) l2 y3 y4 y5 y6 y7 g3 g4 g5 g6 g7
      cases f : (fnd2 o o.length i).map shQ with
      | some r => rw [f] at b; exact b
      | none =>
        rw [f] at b
        obtain ⟨ρ2, b1, z3, z4, z5, z6, z7, k3, k4, k5, k6, k7, rfl⟩ := b
        exact ⟨_, b1, _, _, _, _, _, _, rfl, k3, k4, k5, k6, k7, rfl⟩
  rw [fnd_map] at go
  change match (fnd1 o o.length).map shQ with
    | some r => _
    | none => _ at go
  have e1 : evOs [.pl 1] (E5 o none none none none none none) = .ok [.pl 1] (E5 o none none none none none none) := rfl
  have it : kRange1 [.int (o.length : Int)] = some ((List.range' 0 (o.length - 0)).map fun i : Nat => .int (i : Int)) := by
    rw [kR1 (by omega), rgI_map0, Nat.sub_zero, List.range_eq_range']
  have g0 : sAsg 1 (evPm pLen [.pl 0]) (entry [.sh (D o)] 9) = .next (E5 o none none none none none none) := by
    unfold D
    simp [lineN_eq, n64_eq, cdec_iff, mkF, trimO, trimE, keepIo_none, keepIo_sh, keepIo_ow, keepIo_io, keepIo_lk, keepIo_ex, entry, sSeq, sNil, sRet, sIf, sEx, sAsg, sSet, sRaise, sPar, evRs, bindRs, bindR, evC, evVar, evMv, evPm, evOs, evO, looks, look, pm1, pm2, evAnd, evOr, evNot, evIf, boolR, tvOf, tvAnd, tvOr, tvNot, truthD, Res.d, Sl.d, putR, free_none, free_sh, free_ow, free_ex, free_io, free_lk, Res.sl, pLen, pList, pTuple, pInt, pMax2, pMin2, pTup, pLst, pIsi, pIsiT, tyD, isTy, evCall, argSls, argSl, apart, clash, backA, Sl.wr, Sl.to, evMut, fEqX_int, fNeX_int, fEqX_str, fNeX_str, fIx, fCmp, fAdd, fInt, fIntC, mSet, powB, isL, evIntK, evCh, evInt, fIs, fIsN, isNone_none, isNone_bool, isNone_int, isNone_str, isNone_list, isNone_tuple, evMeth, fNeg]
  unfold F_bar mkF ev_bar
  rw [sSeq_next g0]
  cases f : fnd1 o o.length with
  | some q =>
    rw [f] at go
    obtain ⟨ρ2, a1, a2⟩ := go
    rw [sSeq_ret (evFor_ret e1 rfl it a1 rfl)]
    show OutS.ret _ (trimE ρ2) = _
    rw [a2]
    rfl
  | none =>
    rw [f] at go
    obtain ⟨ρ2, a1, y2, y3, y4, y5, y6, y7, g2, g3, g4, g5, g6, g7, rfl⟩ := go
    rw [sSeq_next (evFor_next (ρ3 := E5 o y2 y3 y4 y5 y6 y7) e1 rfl it a1 rfl)]
    show OutS.ret _ (trimE _) = _
    simp [trimE, keepIo_none, keepIo_sh, keepIo_free g2, keepIo_free g3, keepIo_free g4, keepIo_free g5, keepIo_free g6, keepIo_free g7, optQ]
theorem bar_of_eq {o : List Int} (h : IsP o) (h1 : 1 ≤ o.length) (h2 : o.length ≤ 8) : F_bar_of [.sh (D o)] = .ret (.sh (optQ (fnd1 o o.length))) [none] := by
  have b := bar_eq (by omega) (nodup_of h)
  simp [lineN_eq, n64_eq, cdec_iff, mkF, trimO, trimE, keepIo_none, keepIo_sh, keepIo_ow, keepIo_io, keepIo_lk, keepIo_ex, entry, sSeq, sNil, sRet, sIf, sEx, sAsg, sSet, sRaise, sPar, evRs, bindRs, bindR, evC, evVar, evMv, evPm, evOs, evO, looks, look, pm1, pm2, evAnd, evOr, evNot, evIf, boolR, tvOf, tvAnd, tvOr, tvNot, truthD, Res.d, Sl.d, putR, free_none, free_sh, free_ow, free_ex, free_io, free_lk, Res.sl, pLen, pList, pTuple, pInt, pMax2, pMin2, pTup, pLst, pIsi, pIsiT, tyD, isTy, evCall, argSls, argSl, apart, clash, backA, Sl.wr, Sl.to, evMut, fEqX_int, fNeX_int, fEqX_str, fNeX_str, fIx, fCmp, fAdd, fInt, fIntC, mSet, powB, isL, evIntK, evCh, evInt, fIs, fIsN, isNone_none, isNone_bool, isNone_int, isNone_str, isNone_list, isNone_tuple, evMeth, fNeg, F_bar_of, ev_bar_of, need_eq h h1 h2, b]
/-! the law's own search -/
theorem dataLt_QD (p q : Quad) : PySem.W.dataLt (QD p) (QD q) = lt4 p q := by
  obtain ⟨a, b, c, d⟩ := p
  obtain ⟨a', b', c', d'⟩ := q
  have al : ∀ x y : Int, alike (.int x) (.int y) = true := fun x y => by simp [alike]
  have e0 : PyProof.Rows.lexLt PyProof.Rows.itemOrd (PySem.W.keyToksAll []) (PySem.W.keyToksAll []) = false := PyProof.Rows.lex_irrefl _
  have eq : ∀ x y : Nat, PyData.eqv (.int (x : Int)) (.int (y : Int)) = decide (x = y) := fun x y => by
    simp only [PyData.eqv]
    by_cases h : x = y
    · simp [h]
    · have : ¬ (x : Int) = y := by omega
      simp [h, this]
  have li : ∀ x y : Nat, PySem.W.dataLt (.int (x : Int)) (.int (y : Int)) = decide (x < y) := fun x y => by
    rw [PySem.W.dataLt_int]
    by_cases h : x < y
    · simp [h]
    · have : ¬ (x : Int) < y := by omega
      simp [h, this]
  simp only [QD]
  rw [PySem.W.dataLt_tuple, PySem.W.dataLt_cons (al _ _), PySem.W.dataLt_cons (al _ _), PySem.W.dataLt_cons (al _ _), PySem.W.dataLt_cons (al _ _), e0, eq, eq, eq, eq, li, li, li, li]
  simp only [lt4]
  by_cases h1 : a = a' <;> by_cases h2 : b = b' <;> by_cases h3 : c = c' <;> by_cases h4 : d = d' <;> simp [h1, h2, h3, h4]
theorem minD_QD : ∀ (xs : List Quad) (x : Quad), minD (QD x) (xs.map QD) = QD (least x xs)
  | [], x => rfl
  | a :: xs, x => by
    have ih := minD_QD xs (if lt4 a x = true then a else x)
    have e : least x (a :: xs) = least (if lt4 a x = true then a else x) xs := rfl
    rw [e, ← ih]
    unfold PySem.W.minD
    rw [List.map_cons, List.foldl_cons, dataLt_QD]
    by_cases c : lt4 a x = true
    · rw [if_pos c, if_pos c]
    · rw [if_neg c, if_neg c]
theorem QD_lay (q : Quad) : PyData.canLay0 (QD q) = true := by simp [QD, PyData.canLay0, PyData.canLayAll0]
theorem QD_depth (q : Quad) : (QD q).depth = 1 := by simp [QD, PyData.depth, PyData.depthAll]
theorem shp_QDs (qs : List Quad) : shp (.list (qs.map QD)) = true := by
  have h1 : PyData.canLayAll0 (qs.map QD) = true := by
    induction qs with
    | nil => rfl
    | cons q qs ih => simp [PyData.canLayAll0, QD_lay, ih]
  have h2 : PyData.depthAll (qs.map QD) ≤ 1 := by
    induction qs with
    | nil => simp [PyData.depthAll]
    | cons q qs ih =>
      simp only [List.map_cons, PyData.depthAll, QD_depth]
      have := ih (by simpa [PyData.canLayAll0, QD_lay] using h1)
      omega
  show (PyData.canLay0 (.list (qs.map QD)) && decide ((PyData.list (qs.map QD)).depth ≤ 64)) = true
  rw [Bool.and_eq_true]
  refine ⟨by simp only [PyData.canLay0, h1], decide_eq_true ?_⟩
  simp only [PyData.depth]
  omega
theorem alike_QDs (qs : List Quad) : alikeB (qs.map QD) = true := by
  simp [alikeB, QD, isNoneD, alike, PySem.W.alikeAll]
theorem best_QD (x : Quad) (xs : List Quad) : pBest minD [.list ((x :: xs).map QD)] = some (.sh (QD (least x xs))) := by
  have h1 := shp_QDs (x :: xs)
  have h2 := alike_QDs (x :: xs)
  simp only [List.map_cons] at h1 h2 ⊢
  simp [pBest, seqD, h1, h2, minD_QD]
abbrev B8 (o : List Int) (acc : List Quad) (x2 x3 x4 x5 x6 : Option Sl) : Ev.Env := [some (.sh (.tuple (o.map .int))), some (.ow (.list (acc.map QD))), x2, x3, x4, x5, x6, none]
theorem lvals_lc {o : List Int} {i j k l : Nat} (u : Up o.length (i, j, k, l)) (acc : List Quad) (x2 x3 x4 x5 : Option Sl) : evLc [.pl 6] kSeq (.nm 7) [7] tvYes (evPm (pm2 fIx) [.pl 0, .pl 7]) (B8 o acc x2 x3 x4 x5 (some (.sh (QD (i, j, k, l))))) = .ok (.ow (.list ((val4 o (i, j, k, l)).map .int))) (B8 o acc x2 x3 x4 x5 (some (.sh (QD (i, j, k, l))))) := by
  obtain ⟨u1, u2, u3, u4⟩ := u
  simp only at u1 u2 u3 u4
  have q := evLc_map (os := [.pl 6]) (mk := kSeq) (t := .nm 7) (vs := [7]) (te := evPm (pm2 fIx) [.pl 0, .pl 7]) (ρ := B8 o acc x2 x3 x4 x5 (some (.sh (QD (i, j, k, l))))) (ρ2 := B8 o acc x2 x3 x4 x5 (some (.sh (QD (i, j, k, l))))) (ρ3 := B8 o acc x2 x3 x4 x5 (some (.sh (QD (i, j, k, l))))) (items := [.int i, .int j, .int k, .int l]) (fun d => match d with
    | .int m => .int (o.getD m.toNat 0)
    | _ => .none) rfl rfl rfl rfl (by simp) rfl (fun d hd => by
      have key : ∀ m : Nat, m < o.length → ∃ ρa, bindT (.nm 7) (.int m) (B8 o acc x2 x3 x4 x5 (some (.sh (QD (i, j, k, l))))) = some ρa ∧ ∃ r ρb, evPm (pm2 fIx) [.pl 0, .pl 7] ρa = .ok r ρb ∧ r.d = .int (o.getD m 0) ∧ wipeE ρb [7] = B8 o acc x2 x3 x4 x5 (some (.sh (QD (i, j, k, l)))) := fun m hm => by
        refine ⟨[some (.sh (.tuple (o.map .int))), some (.ow (.list (acc.map QD))), x2, x3, x4, x5, some (.sh (QD (i, j, k, l))), some (.sh (.int m))], rfl, .sh (.int (o.getD m 0)), [some (.sh (.tuple (o.map .int))), some (.ow (.list (acc.map QD))), x2, x3, x4, x5, some (.sh (QD (i, j, k, l))), some (.sh (.int m))], ?_, rfl, rfl⟩
        have := ix_D hm
        simp [lineN_eq, n64_eq, cdec_iff, mkF, trimO, trimE, keepIo_none, keepIo_sh, keepIo_ow, keepIo_io, keepIo_lk, keepIo_ex, entry, sSeq, sNil, sRet, sIf, sEx, sAsg, sSet, sRaise, sPar, evRs, bindRs, bindR, evC, evVar, evMv, evPm, evOs, evO, looks, look, pm1, pm2, evAnd, evOr, evNot, evIf, boolR, tvOf, tvAnd, tvOr, tvNot, truthD, Res.d, Sl.d, putR, free_none, free_sh, free_ow, free_ex, free_io, free_lk, Res.sl, pLen, pList, pTuple, pInt, pMax2, pMin2, pTup, pLst, pIsi, pIsiT, tyD, isTy, evCall, argSls, argSl, apart, clash, backA, Sl.wr, Sl.to, evMut, fEqX_int, fNeX_int, fEqX_str, fNeX_str, fIx, fCmp, fAdd, fInt, fIntC, mSet, powB, isL, evIntK, evCh, evInt, fIs, fIsN, isNone_none, isNone_bool, isNone_int, isNone_str, isNone_list, isNone_tuple, evMeth, fNeg, this]
      simp only [List.mem_cons, List.not_mem_nil, or_false] at hd
      rcases hd with rfl | rfl | rfl | rfl
      · exact key i (by omega)
      · exact key j (by omega)
      · exact key k (by omega)
      · exact key l (by omega)) rfl
  rw [q]
  rfl
def sIn (q : Quad) : Option Sl := some (.sh (QD q))
def nS (i : Nat) : Option Sl := some (.sh (.int i))
theorem two_in (v : List Nat) : fInX false (.list (DN v)) (.list [.list [.int 1, .int 3, .int 0, .int 2], .list [.int 2, .int 0, .int 3, .int 1]]) = some (.sh (.bool (decide (v = [1, 3, 0, 2] ∨ v = [2, 0, 3, 1])))) := by
  have s1 := shp_LI (v.map fun n : Nat => (n : Int))
  unfold LI at s1
  rw [← DN_ints] at s1
  have s2 : shp (.list [.list [.int 1, .int 3, .int 0, .int 2], .list [.int 2, .int 0, .int 3, .int 1]]) = true := by decide
  have e1 := eqvAll_DN [1, 3, 0, 2] v
  have e2 := eqvAll_DN [2, 0, 3, 1] v
  have d1 : DN [1, 3, 0, 2] = [.int 1, .int 3, .int 0, .int 2] := rfl
  have d2 : DN [2, 0, 3, 1] = [.int 2, .int 0, .int 3, .int 1] := rfl
  rw [d1] at e1
  rw [d2] at e2
  have sy1 : ([1, 3, 0, 2] = v) ↔ (v = [1, 3, 0, 2]) := ⟨Eq.symm, Eq.symm⟩
  have sy2 : ([2, 0, 3, 1] = v) ↔ (v = [2, 0, 3, 1]) := ⟨Eq.symm, Eq.symm⟩
  simp [fInX, signIn, seqD, s1, s2, PyData.eqv, e1, e2, sy1, sy2]
theorem lb1_eq {o : List Int} (nd : o.Nodup) {i j k l : Nat} (u : Up o.length (i, j, k, l)) (acc : List Quad) (ha : acc.length < 16777216) (x6 : Option Sl) (f6 : Sl.free x6 = true) :
    b__law_bar_1 (B8 o acc (nS l) (nS k) (nS j) (nS i) x6) = .next (B8 o (acc ++ if isBar o (i, j, k, l) = true then [(i, j, k, l)] else []) (nS l) (nS k) (nS j) (nS i) (sIn (i, j, k, l))) := by
  have v := lvals_lc u acc (nS l) (nS k) (nS j) (nS i)
  have st := law_stands_eq (val4 o (i, j, k, l)) (by simp [val4])
  have g1 : sAsg 6 (evPm pTup ([evVar 5, evVar 4, evVar 3, evVar 2].map .ex)) (B8 o acc (nS l) (nS k) (nS j) (nS i) x6) = .next (B8 o acc (nS l) (nS k) (nS j) (nS i) (sIn (i, j, k, l))) := by
    simp [lineN_eq, n64_eq, cdec_iff, mkF, trimO, trimE, keepIo_none, keepIo_sh, keepIo_ow, keepIo_io, keepIo_lk, keepIo_ex, entry, sSeq, sNil, sRet, sIf, sEx, sAsg, sSet, sRaise, sPar, evRs, bindRs, bindR, evC, evVar, evMv, evPm, evOs, evO, looks, look, pm1, pm2, evAnd, evOr, evNot, evIf, boolR, tvOf, tvAnd, tvOr, tvNot, truthD, Res.d, Sl.d, putR, free_none, free_sh, free_ow, free_ex, free_io, free_lk, Res.sl, pLen, pList, pTuple, pInt, pMax2, pMin2, pTup, pLst, pIsi, pIsiT, tyD, isTy, evCall, argSls, argSl, apart, clash, backA, Sl.wr, Sl.to, evMut, fEqX_int, fNeX_int, fEqX_str, fNeX_str, fIx, fCmp, fAdd, fInt, fIntC, mSet, powB, isL, evIntK, evCh, evInt, fIs, fIsN, isNone_none, isNone_bool, isNone_int, isNone_str, isNone_list, isNone_tuple, evMeth, fNeg, f6, QD, nS, sIn]
  unfold b__law_bar_1
  rw [sSeq_next g1]
  unfold LI at st
  have tw := two_in (rk (val4 o (i, j, k, l)))
  have g2 : evPm (pm2 (fInX false)) [.ex (evCall F__law_stands [.ex (evLc [.pl 6] kSeq (.nm 7) [7] (tvYes) (evPm (pm2 fIx) [.pl 0, .pl 7]))]), .ex (evPm pLst ([evPm pLst ([evC (.int 1), evC (.int 3), evC (.int 0), evC (.int 2)].map .ex), evPm pLst ([evC (.int 2), evC (.int 0), evC (.int 3), evC (.int 1)].map .ex)].map .ex))] (B8 o acc (nS l) (nS k) (nS j) (nS i) (sIn (i, j, k, l))) = .ok (.sh (.bool (isBar o (i, j, k, l)))) (B8 o acc (nS l) (nS k) (nS j) (nS i) (sIn (i, j, k, l))) := by
    unfold sIn at v ⊢
    simp [lineN_eq, n64_eq, cdec_iff, mkF, trimO, trimE, keepIo_none, keepIo_sh, keepIo_ow, keepIo_io, keepIo_lk, keepIo_ex, entry, sSeq, sNil, sRet, sIf, sEx, sAsg, sSet, sRaise, sPar, evRs, bindRs, bindR, evC, evVar, evMv, evPm, evOs, evO, looks, look, pm1, pm2, evAnd, evOr, evNot, evIf, boolR, tvOf, tvAnd, tvOr, tvNot, truthD, Res.d, Sl.d, putR, free_none, free_sh, free_ow, free_ex, free_io, free_lk, Res.sl, pLen, pList, pTuple, pInt, pMax2, pMin2, pTup, pLst, pIsi, pIsiT, tyD, isTy, evCall, argSls, argSl, apart, clash, backA, Sl.wr, Sl.to, evMut, fEqX_int, fNeX_int, fEqX_str, fNeX_str, fIx, fCmp, fAdd, fInt, fIntC, mSet, powB, isL, evIntK, evCh, evInt, fIs, fIsN, isNone_none, isNone_bool, isNone_int, isNone_str, isNone_list, isNone_tuple, evMeth, fNeg, v, st, tw, isBar]
  have g3 : tvOf (evPm (pm2 (fInX false)) [.ex (evCall F__law_stands [.ex (evLc [.pl 6] kSeq (.nm 7) [7] (tvYes) (evPm (pm2 fIx) [.pl 0, .pl 7]))]), .ex (evPm pLst ([evPm pLst ([evC (.int 1), evC (.int 3), evC (.int 0), evC (.int 2)].map .ex), evPm pLst ([evC (.int 2), evC (.int 0), evC (.int 3), evC (.int 1)].map .ex)].map .ex))]) (B8 o acc (nS l) (nS k) (nS j) (nS i) (sIn (i, j, k, l))) = .ok (isBar o (i, j, k, l)) (B8 o acc (nS l) (nS k) (nS j) (nS i) (sIn (i, j, k, l))) := by
    unfold tvOf
    rw [g2]
    rfl
  unfold sIf
  rw [g3]
  cases c : isBar o (i, j, k, l) with
  | false =>
    simp only [Bool.false_eq_true, if_false, List.append_nil]
    rfl
  | true =>
    simp [lineN_eq, n64_eq, cdec_iff, mkF, trimO, trimE, keepIo_none, keepIo_sh, keepIo_ow, keepIo_io, keepIo_lk, keepIo_ex, entry, sSeq, sNil, sRet, sIf, sEx, sAsg, sSet, sRaise, sPar, evRs, bindRs, bindR, evC, evVar, evMv, evPm, evOs, evO, looks, look, pm1, pm2, evAnd, evOr, evNot, evIf, boolR, tvOf, tvAnd, tvOr, tvNot, truthD, Res.d, Sl.d, putR, free_none, free_sh, free_ow, free_ex, free_io, free_lk, Res.sl, pLen, pList, pTuple, pInt, pMax2, pMin2, pTup, pLst, pIsi, pIsiT, tyD, isTy, evCall, argSls, argSl, apart, clash, backA, Sl.wr, Sl.to, evMut, fEqX_int, fNeX_int, fEqX_str, fNeX_str, fIx, fCmp, fAdd, fInt, fIntC, mSet, powB, isL, evIntK, evCh, evInt, fIs, fIsN, isNone_none, isNone_bool, isNone_int, isNone_str, isNone_list, isNone_tuple, evMeth, fNeg, mAppend, sIn, nS, ha]
/-! the law's loops -/
def RB (o : List Int) (x2 x3 x4 : Option Sl) (acc : List Quad) (ρ : Ev.Env) : Prop := ∃ x5 x6, Sl.free x5 = true ∧ Sl.free x6 = true ∧ ρ = B8 o acc x2 x3 x4 x5 x6
def RB3 (o : List Int) (x2 x3 : Option Sl) (acc : List Quad) (ρ : Ev.Env) : Prop := ∃ x4 x5 x6, Sl.free x4 = true ∧ Sl.free x5 = true ∧ Sl.free x6 = true ∧ ρ = B8 o acc x2 x3 x4 x5 x6
def RB2 (o : List Int) (x2 : Option Sl) (acc : List Quad) (ρ : Ev.Env) : Prop := ∃ x3 x4 x5 x6, Sl.free x3 = true ∧ Sl.free x4 = true ∧ Sl.free x5 = true ∧ Sl.free x6 = true ∧ ρ = B8 o acc x2 x3 x4 x5 x6
def RB1 (o : List Int) (acc : List Quad) (ρ : Ev.Env) : Prop := ∃ x2 x3 x4 x5 x6, Sl.free x2 = true ∧ Sl.free x3 = true ∧ Sl.free x4 = true ∧ Sl.free x5 = true ∧ Sl.free x6 = true ∧ ρ = B8 o acc x2 x3 x4 x5 x6
theorem it1 {n : Nat} (h : n ≤ 1000) : kRange1 [.int (n : Int)] = some ((List.range n).map fun i : Nat => .int (i : Int)) := by
  rw [kR1 (by omega), rgI_map0]
def g1 (o : List Int) (l k j i : Nat) : List Quad := if isBar o (i, j, k, l) = true then [(i, j, k, l)] else []
def g2 (o : List Int) (l k j : Nat) : List Quad := (List.range j).flatMap (g1 o l k j)
def g3 (o : List Int) (l k : Nat) : List Quad := (List.range k).flatMap (g2 o l k)
def g4 (o : List Int) (l : Nat) : List Quad := (List.range l).flatMap (g3 o l)
theorem all4_g (o : List Int) (n : Nat) : all4 o n = (List.range n).flatMap (g4 o) := rfl
theorem lb2 {o : List Int} (nd : o.Nodup) (hl : o.length ≤ 8) {j k l : Nat} (h1 : j < k) (h2 : k < l) (h3 : l < o.length) (acc : List Quad) (hf : acc.length + (g2 o l k j).length ≤ 10000) (ρ : Ev.Env) (h : RB o (nS l) (nS k) (nS j) acc ρ) : ∃ ρ2, b__law_bar_2 ρ = .next ρ2 ∧ RB o (nS l) (nS k) (nS j) (acc ++ g2 o l k j) ρ2 := by
  have h' := h
  obtain ⟨x5, x6, f5, f6, rfl⟩ := h'
  obtain ⟨ρ2, a1, a2⟩ := forGo_acc (t := .nm 5) (body := b__law_bar_1) 10000 (fun i : Nat => .int (i : Int)) (RB o (nS l) (nS k) (nS j)) (g1 o l k j) (List.range j) acc (B8 o acc (nS l) (nS k) (nS j) x5 x6) hf h (fun i hi a ρ ha ⟨y5, y6, k5, k6, e⟩ => by
    subst e
    have hij : i < j := List.mem_range.mp hi
    refine ⟨B8 o a (nS l) (nS k) (nS j) (nS i) y6, _, by simp [lineN_eq, n64_eq, cdec_iff, mkF, trimO, trimE, keepIo_none, keepIo_sh, keepIo_ow, keepIo_io, keepIo_lk, keepIo_ex, entry, sSeq, sNil, sRet, sIf, sEx, sAsg, sSet, sRaise, sPar, evRs, bindRs, bindR, evC, evVar, evMv, evPm, evOs, evO, looks, look, pm1, pm2, evAnd, evOr, evNot, evIf, boolR, tvOf, tvAnd, tvOr, tvNot, truthD, Res.d, Sl.d, putR, free_none, free_sh, free_ow, free_ex, free_io, free_lk, Res.sl, pLen, pList, pTuple, pInt, pMax2, pMin2, pTup, pLst, pIsi, pIsiT, tyD, isTy, evCall, argSls, argSl, apart, clash, backA, Sl.wr, Sl.to, evMut, fEqX_int, fNeX_int, fEqX_str, fNeX_str, fIx, fCmp, fAdd, fInt, fIntC, mSet, powB, isL, evIntK, evCh, evInt, fIs, fIsN, isNone_none, isNone_bool, isNone_int, isNone_str, isNone_list, isNone_tuple, evMeth, fNeg, evLc, calmB, lks, Arg.lk, lock1, wipeE, bindT, restE, keepSh, uns, Arg.un, unlk1, tvYes, k5, nS], lb1_eq nd (i := i) (j := j) (k := k) (l := l) ⟨hij, h1, h2, h3⟩ a (by omega) y6 k6, nS i, sIn (i, j, k, l), rfl, rfl, rfl⟩)
  have a3 := a2
  obtain ⟨y5, y6, k5, k6, rfl⟩ := a3
  exact ⟨_, evFor_next (ρ3 := B8 o (acc ++ (List.range j).flatMap (g1 o l k j)) (nS l) (nS k) (nS j) y5 y6) rfl rfl (it1 (by omega)) a1 rfl, a2⟩
theorem lb3 {o : List Int} (nd : o.Nodup) (hl : o.length ≤ 8) {k l : Nat} (h2 : k < l) (h3 : l < o.length) (acc : List Quad) (hf : acc.length + (g3 o l k).length ≤ 10000) (ρ : Ev.Env) (h : RB3 o (nS l) (nS k) acc ρ) : ∃ ρ2, b__law_bar_3 ρ = .next ρ2 ∧ RB3 o (nS l) (nS k) (acc ++ g3 o l k) ρ2 := by
  have h' := h
  obtain ⟨x4, x5, x6, f4, f5, f6, rfl⟩ := h'
  obtain ⟨ρ2, a1, a2⟩ := forGo_acc (t := .nm 4) (body := b__law_bar_2) 10000 (fun i : Nat => .int (i : Int)) (RB3 o (nS l) (nS k)) (g2 o l k) (List.range k) acc (B8 o acc (nS l) (nS k) x4 x5 x6) hf h (fun j hj a ρ ha ⟨y4, y5, y6, k4, k5, k6, e⟩ => by
    subst e
    have hjk : j < k := List.mem_range.mp hj
    obtain ⟨ρ2, b1, y5', y6', k5', k6', rfl⟩ := lb2 nd hl hjk h2 h3 a ha (B8 o a (nS l) (nS k) (nS j) y5 y6) ⟨y5, y6, k5, k6, rfl⟩
    exact ⟨B8 o a (nS l) (nS k) (nS j) y5 y6, _, by simp [lineN_eq, n64_eq, cdec_iff, mkF, trimO, trimE, keepIo_none, keepIo_sh, keepIo_ow, keepIo_io, keepIo_lk, keepIo_ex, entry, sSeq, sNil, sRet, sIf, sEx, sAsg, sSet, sRaise, sPar, evRs, bindRs, bindR, evC, evVar, evMv, evPm, evOs, evO, looks, look, pm1, pm2, evAnd, evOr, evNot, evIf, boolR, tvOf, tvAnd, tvOr, tvNot, truthD, Res.d, Sl.d, putR, free_none, free_sh, free_ow, free_ex, free_io, free_lk, Res.sl, pLen, pList, pTuple, pInt, pMax2, pMin2, pTup, pLst, pIsi, pIsiT, tyD, isTy, evCall, argSls, argSl, apart, clash, backA, Sl.wr, Sl.to, evMut, fEqX_int, fNeX_int, fEqX_str, fNeX_str, fIx, fCmp, fAdd, fInt, fIntC, mSet, powB, isL, evIntK, evCh, evInt, fIs, fIsN, isNone_none, isNone_bool, isNone_int, isNone_str, isNone_list, isNone_tuple, evMeth, fNeg, evLc, calmB, lks, Arg.lk, lock1, wipeE, bindT, restE, keepSh, uns, Arg.un, unlk1, tvYes, k4, nS], b1, nS j, y5', y6', rfl, k5', k6', rfl⟩)
  have a3 := a2
  obtain ⟨y4, y5, y6, k4, k5, k6, rfl⟩ := a3
  exact ⟨_, evFor_next (ρ3 := B8 o (acc ++ (List.range k).flatMap (g2 o l k)) (nS l) (nS k) y4 y5 y6) rfl rfl (it1 (by omega)) a1 rfl, a2⟩
theorem lb4 {o : List Int} (nd : o.Nodup) (hl : o.length ≤ 8) {l : Nat} (h3 : l < o.length) (acc : List Quad) (hf : acc.length + (g4 o l).length ≤ 10000) (ρ : Ev.Env) (h : RB2 o (nS l) acc ρ) : ∃ ρ2, b__law_bar_4 ρ = .next ρ2 ∧ RB2 o (nS l) (acc ++ g4 o l) ρ2 := by
  have h' := h
  obtain ⟨x3, x4, x5, x6, f3, f4, f5, f6, rfl⟩ := h'
  obtain ⟨ρ2, a1, a2⟩ := forGo_acc (t := .nm 3) (body := b__law_bar_3) 10000 (fun i : Nat => .int (i : Int)) (RB2 o (nS l)) (g3 o l) (List.range l) acc (B8 o acc (nS l) x3 x4 x5 x6) hf h (fun k hk a ρ ha ⟨y3, y4, y5, y6, k3, k4, k5, k6, e⟩ => by
    subst e
    have hkl : k < l := List.mem_range.mp hk
    obtain ⟨ρ2, b1, y4', y5', y6', k4', k5', k6', rfl⟩ := lb3 nd hl hkl h3 a ha (B8 o a (nS l) (nS k) y4 y5 y6) ⟨y4, y5, y6, k4, k5, k6, rfl⟩
    exact ⟨B8 o a (nS l) (nS k) y4 y5 y6, _, by simp [lineN_eq, n64_eq, cdec_iff, mkF, trimO, trimE, keepIo_none, keepIo_sh, keepIo_ow, keepIo_io, keepIo_lk, keepIo_ex, entry, sSeq, sNil, sRet, sIf, sEx, sAsg, sSet, sRaise, sPar, evRs, bindRs, bindR, evC, evVar, evMv, evPm, evOs, evO, looks, look, pm1, pm2, evAnd, evOr, evNot, evIf, boolR, tvOf, tvAnd, tvOr, tvNot, truthD, Res.d, Sl.d, putR, free_none, free_sh, free_ow, free_ex, free_io, free_lk, Res.sl, pLen, pList, pTuple, pInt, pMax2, pMin2, pTup, pLst, pIsi, pIsiT, tyD, isTy, evCall, argSls, argSl, apart, clash, backA, Sl.wr, Sl.to, evMut, fEqX_int, fNeX_int, fEqX_str, fNeX_str, fIx, fCmp, fAdd, fInt, fIntC, mSet, powB, isL, evIntK, evCh, evInt, fIs, fIsN, isNone_none, isNone_bool, isNone_int, isNone_str, isNone_list, isNone_tuple, evMeth, fNeg, evLc, calmB, lks, Arg.lk, lock1, wipeE, bindT, restE, keepSh, uns, Arg.un, unlk1, tvYes, k3, nS], b1, nS k, y4', y5', y6', rfl, k4', k5', k6', rfl⟩)
  have a3 := a2
  obtain ⟨y3, y4, y5, y6, k3, k4, k5, k6, rfl⟩ := a3
  exact ⟨_, evFor_next (ρ3 := B8 o (acc ++ (List.range l).flatMap (g3 o l)) (nS l) y3 y4 y5 y6) rfl rfl (it1 (by omega)) a1 rfl, a2⟩
theorem all4_len {o : List Int} {n : Nat} (hn : n ≤ 8) : (all4 o n).length ≤ 10000 := by
  have b1 : ∀ l k j, ∀ i ∈ List.range j, (g1 o l k j i).length ≤ 1 := fun l k j i _ => by
    unfold g1
    split <;> simp
  have b2 : ∀ l k, k ≤ 8 → ∀ j ∈ List.range k, (g2 o l k j).length ≤ 8 := fun l k hk j hj => by
    have := flatMap_le _ 1 (List.range j) (b1 l k j)
    have hj := List.mem_range.mp hj
    rw [List.length_range] at this
    unfold g2
    omega
  have b3 : ∀ l, l ≤ 8 → ∀ k ∈ List.range l, (g3 o l k).length ≤ 64 := fun l hl k hk => by
    have hk := List.mem_range.mp hk
    have := flatMap_le _ 8 (List.range k) (b2 l k (by omega))
    rw [List.length_range] at this
    unfold g3
    omega
  have b4 : ∀ l ∈ List.range n, (g4 o l).length ≤ 512 := fun l hl => by
    have hl := List.mem_range.mp hl
    have := flatMap_le _ 64 (List.range l) (b3 l (by omega))
    rw [List.length_range] at this
    unfold g4
    omega
  have := flatMap_le _ 512 (List.range n) b4
  rw [all4_g]
  rw [List.length_range] at this
  omega
theorem law_bar_eq {o : List Int} (nd : o.Nodup) (hl : o.length ≤ 8) : F__law_bar [.sh (D o)] = .ret (.sh (optQ (fnd1 o o.length))) [none, none, none, none, none, none, none, none] := by
  obtain ⟨ρ2, a1, a2⟩ := forGo_acc (t := .nm 2) (body := b__law_bar_4) 10000 (fun i : Nat => .int (i : Int)) (RB1 o) (g4 o) (List.range o.length) [] (B8 o [] none none none none none) (by have := all4_len (o := o) hl; rw [all4_g] at this; simpa using this) ⟨none, none, none, none, none, rfl, rfl, rfl, rfl, rfl, rfl⟩ (fun l hl2 a ρ ha ⟨y2, y3, y4, y5, y6, k2, k3, k4, k5, k6, e⟩ => by
    subst e
    have hlo : l < o.length := List.mem_range.mp hl2
    obtain ⟨ρ2, b1, y3', y4', y5', y6', k3', k4', k5', k6', rfl⟩ := lb4 nd hl hlo a ha (B8 o a (nS l) y3 y4 y5 y6) ⟨y3, y4, y5, y6, k3, k4, k5, k6, rfl⟩
    exact ⟨B8 o a (nS l) y3 y4 y5 y6, _, by simp [lineN_eq, n64_eq, cdec_iff, mkF, trimO, trimE, keepIo_none, keepIo_sh, keepIo_ow, keepIo_io, keepIo_lk, keepIo_ex, entry, sSeq, sNil, sRet, sIf, sEx, sAsg, sSet, sRaise, sPar, evRs, bindRs, bindR, evC, evVar, evMv, evPm, evOs, evO, looks, look, pm1, pm2, evAnd, evOr, evNot, evIf, boolR, tvOf, tvAnd, tvOr, tvNot, truthD, Res.d, Sl.d, putR, free_none, free_sh, free_ow, free_ex, free_io, free_lk, Res.sl, pLen, pList, pTuple, pInt, pMax2, pMin2, pTup, pLst, pIsi, pIsiT, tyD, isTy, evCall, argSls, argSl, apart, clash, backA, Sl.wr, Sl.to, evMut, fEqX_int, fNeX_int, fEqX_str, fNeX_str, fIx, fCmp, fAdd, fInt, fIntC, mSet, powB, isL, evIntK, evCh, evInt, fIs, fIsN, isNone_none, isNone_bool, isNone_int, isNone_str, isNone_list, isNone_tuple, evMeth, fNeg, evLc, calmB, lks, Arg.lk, lock1, wipeE, bindT, restE, keepSh, uns, Arg.un, unlk1, tvYes, k2, nS], b1, nS l, y3', y4', y5', y6', rfl, k3', k4', k5', k6', rfl⟩)
  obtain ⟨y2, y3, y4, y5, y6, k2, k3, k4, k5, k6, rfl⟩ := a2
  have g0 : sAsg 1 (evPm pLst ([].map .ex)) (entry [.sh (D o)] 7) = .next (B8 o [] none none none none none) := by
    unfold D
    simp [lineN_eq, n64_eq, cdec_iff, mkF, trimO, trimE, keepIo_none, keepIo_sh, keepIo_ow, keepIo_io, keepIo_lk, keepIo_ex, entry, sSeq, sNil, sRet, sIf, sEx, sAsg, sSet, sRaise, sPar, evRs, bindRs, bindR, evC, evVar, evMv, evPm, evOs, evO, looks, look, pm1, pm2, evAnd, evOr, evNot, evIf, boolR, tvOf, tvAnd, tvOr, tvNot, truthD, Res.d, Sl.d, putR, free_none, free_sh, free_ow, free_ex, free_io, free_lk, Res.sl, pLen, pList, pTuple, pInt, pMax2, pMin2, pTup, pLst, pIsi, pIsiT, tyD, isTy, evCall, argSls, argSl, apart, clash, backA, Sl.wr, Sl.to, evMut, fEqX_int, fNeX_int, fEqX_str, fNeX_str, fIx, fCmp, fAdd, fInt, fIntC, mSet, powB, isL, evIntK, evCh, evInt, fIs, fIsN, isNone_none, isNone_bool, isNone_int, isNone_str, isNone_list, isNone_tuple, evMeth, fNeg]
  have e1 : evOs [.ex (evPm pLen [.pl 0])] (B8 o [] none none none none none) = .ok [.sh (.int o.length)] (B8 o [] none none none none none) := by simp [lineN_eq, n64_eq, cdec_iff, mkF, trimO, trimE, keepIo_none, keepIo_sh, keepIo_ow, keepIo_io, keepIo_lk, keepIo_ex, entry, sSeq, sNil, sRet, sIf, sEx, sAsg, sSet, sRaise, sPar, evRs, bindRs, bindR, evC, evVar, evMv, evPm, evOs, evO, looks, look, pm1, pm2, evAnd, evOr, evNot, evIf, boolR, tvOf, tvAnd, tvOr, tvNot, truthD, Res.d, Sl.d, putR, free_none, free_sh, free_ow, free_ex, free_io, free_lk, Res.sl, pLen, pList, pTuple, pInt, pMax2, pMin2, pTup, pLst, pIsi, pIsiT, tyD, isTy, evCall, argSls, argSl, apart, clash, backA, Sl.wr, Sl.to, evMut, fEqX_int, fNeX_int, fEqX_str, fNeX_str, fIx, fCmp, fAdd, fInt, fIntC, mSet, powB, isL, evIntK, evCh, evInt, fIs, fIsN, isNone_none, isNone_bool, isNone_int, isNone_str, isNone_list, isNone_tuple, evMeth, fNeg]
  unfold F__law_bar mkF ev__law_bar
  rw [sSeq_next g0, sSeq_next (evFor_next (ρ3 := B8 o (all4 o o.length) y2 y3 y4 y5 y6) e1 rfl (it1 (by omega)) a1 rfl)]
  have fl := first_least o o.length
  have sh := shp_QDs (all4 o o.length)
  have sh0 : shp (.list []) = true := by decide
  cases e : all4 o o.length with
  | nil =>
    rw [e] at fl sh
    have ne : fNeX (.list []) (.list []) = some (.sh (.bool false)) := by
      simp [fNeX, fNe, sh0, PyData.eqv, PyData.eqvAll]
    rw [fl]
    simp [lineN_eq, n64_eq, cdec_iff, mkF, trimO, trimE, keepIo_none, keepIo_sh, keepIo_ow, keepIo_io, keepIo_lk, keepIo_ex, entry, sSeq, sNil, sRet, sIf, sEx, sAsg, sSet, sRaise, sPar, evRs, bindRs, bindR, evC, evVar, evMv, evPm, evOs, evO, looks, look, pm1, pm2, evAnd, evOr, evNot, evIf, boolR, tvOf, tvAnd, tvOr, tvNot, truthD, Res.d, Sl.d, putR, free_none, free_sh, free_ow, free_ex, free_io, free_lk, Res.sl, pLen, pList, pTuple, pInt, pMax2, pMin2, pTup, pLst, pIsi, pIsiT, tyD, isTy, evCall, argSls, argSl, apart, clash, backA, Sl.wr, Sl.to, evMut, fEqX_int, fNeX_int, fEqX_str, fNeX_str, fIx, fCmp, fAdd, fInt, fIntC, mSet, powB, isL, evIntK, evCh, evInt, fIs, fIsN, isNone_none, isNone_bool, isNone_int, isNone_str, isNone_list, isNone_tuple, evMeth, fNeg, ne, keepIo_free k2, keepIo_free k3, keepIo_free k4, keepIo_free k5, keepIo_free k6, optQ]
  | cons x xs =>
    rw [e] at fl sh
    have ne : fNeX (.list (QD x :: xs.map QD)) (.list []) = some (.sh (.bool true)) := by
      simp only [List.map_cons] at sh
      simp [fNeX, fNe, sh, sh0, PyData.eqv, PyData.eqvAll]
    have bq := best_QD x xs
    simp only [List.map_cons] at bq
    rw [fl]
    simp [lineN_eq, n64_eq, cdec_iff, mkF, trimO, trimE, keepIo_none, keepIo_sh, keepIo_ow, keepIo_io, keepIo_lk, keepIo_ex, entry, sSeq, sNil, sRet, sIf, sEx, sAsg, sSet, sRaise, sPar, evRs, bindRs, bindR, evC, evVar, evMv, evPm, evOs, evO, looks, look, pm1, pm2, evAnd, evOr, evNot, evIf, boolR, tvOf, tvAnd, tvOr, tvNot, truthD, Res.d, Sl.d, putR, free_none, free_sh, free_ow, free_ex, free_io, free_lk, Res.sl, pLen, pList, pTuple, pInt, pMax2, pMin2, pTup, pLst, pIsi, pIsiT, tyD, isTy, evCall, argSls, argSl, apart, clash, backA, Sl.wr, Sl.to, evMut, fEqX_int, fNeX_int, fEqX_str, fNeX_str, fIx, fCmp, fAdd, fInt, fIntC, mSet, powB, isL, evIntK, evCh, evInt, fIs, fIsN, isNone_none, isNone_bool, isNone_int, isNone_str, isNone_list, isNone_tuple, evMeth, fNeg, ne, bq, keepIo_free k2, keepIo_free k3, keepIo_free k4, keepIo_free k5, keepIo_free k6, optQ]
/-! one order -/
theorem shp_optQ (q : Option Quad) : shp (optQ q) = true := by
  cases q with
  | none => exact shp_none
  | some q =>
    show (PyData.canLay0 (QD q) && decide ((QD q).depth ≤ 64)) = true
    rw [QD_lay, QD_depth]
    rfl
theorem repr_optQ {n : Nat} {q : Option Quad} (hn : n ≤ 1000) (h : ∀ x, q = some x → Up n x) : pRepr [optQ q] = some (.sh (.str (optQ q).shown)) := by
  have lg : ∀ i : Nat, i < 1000 → Nat.log2 i < 10 := fun i hi => by
    by_cases h0 : i = 0
    · subst h0; decide
    · exact (Nat.log2_lt h0).mpr (by omega)
  refine LawS.repr_eq (shp_optQ q) ?_ ?_
  · cases q with
    | none => rfl
    | some x =>
      obtain ⟨i, j, k, l⟩ := x
      obtain ⟨u1, u2, u3, u4⟩ := h _ rfl
      simp only at u1 u2 u3 u4
      have := lg i (by omega)
      have := lg j (by omega)
      have := lg k (by omega)
      have := lg l (by omega)
      simp [optQ, QD, PyData.showable, PyData.showableAll]
      omega
  · cases q with
    | none => decide
    | some x =>
      obtain ⟨i, j, k, l⟩ := x
      obtain ⟨u1, u2, u3, u4⟩ := h _ rfl
      simp only at u1 u2 u3 u4
      have := lg i (by omega)
      have := lg j (by omega)
      have := lg k (by omega)
      have := lg l (by omega)
      simp [optQ, QD, LawS.sw, LawS.swA]
      omega
theorem right_eq {o : List Int} (h : IsP o) (h1 : 1 ≤ o.length) (h2 : o.length ≤ 8) : F__law_is_right [.sh (D o)] = .ret (.sh (.bool true)) [none, none] := by
  have a := law_bar_eq (nodup_of h) h2
  have b := bar_of_eq h h1 h2
  have c := split_eq h h1 h2
  have d := split_none h h1 h2
  have r := repr_optQ (n := o.length) (q := fnd1 o o.length) (by omega) fun x hx => (fnd1_some hx).1
  have nn : isNoneD (optQ (fnd1 o o.length)) = !(fnd1 o o.length).isSome := by
    cases fnd1 o o.length <;> rfl
  have is1 : ∀ d : PyData, fIs d .none = some (.sh (.bool (isNoneD d))) := fun d => by cases d <;> rfl
  have is2 : ∀ d : PyData, fIsN d .none = some (.sh (.bool (!isNoneD d))) := fun d => by cases d <;> rfl
  simp [lineN_eq, n64_eq, cdec_iff, mkF, trimO, trimE, keepIo_none, keepIo_sh, keepIo_ow, keepIo_io, keepIo_lk, keepIo_ex, entry, sSeq, sNil, sRet, sIf, sEx, sAsg, sSet, sRaise, sPar, evRs, bindRs, bindR, evC, evVar, evMv, evPm, evOs, evO, looks, look, pm1, pm2, evAnd, evOr, evNot, evIf, boolR, tvOf, tvAnd, tvOr, tvNot, truthD, Res.d, Sl.d, putR, free_none, free_sh, free_ow, free_ex, free_io, free_lk, Res.sl, pLen, pList, pTuple, pInt, pMax2, pMin2, pTup, pLst, pIsi, pIsiT, tyD, isTy, evCall, argSls, argSl, apart, clash, backA, Sl.wr, Sl.to, evMut, fEqX_int, fNeX_int, fEqX_str, fNeX_str, fIx, fCmp, fAdd, fInt, fIntC, mSet, powB, isL, evIntK, evCh, evInt, fIs, fIsN, isNone_none, isNone_bool, isNone_int, isNone_str, isNone_list, isNone_tuple, evMeth, fNeg, F__law_is_right, ev__law_is_right, a, b, c, r, is1, is2, d, nn, LawC.fEqX_bool]
/-! orders by their numbers -/
def fact : Nat → Nat
  | 0 => 1
  | n + 1 => fact n * (n + 1)
theorem fact_pos : ∀ n, 0 < fact n
  | 0 => by decide
  | n + 1 => Nat.mul_pos (fact_pos n) (by omega)
theorem fact_le : ∀ n, n ≤ 8 → fact n ≤ 40320
  | 0, _ | 1, _ | 2, _ | 3, _ | 4, _ | 5, _ | 6, _ | 7, _ | 8, _ => by decide
  | n + 9, h => by omega
abbrev N8 (x0 : Option Sl) (num : Nat) (pool got : List Int) (x4 x5 x6 x7 : Option Sl) : Ev.Env := [x0, some (.sh (.int num)), some (.ow (.list (pool.map .int))), some (.ow (.list (got.map .int))), x4, x5, x6, x7]
/-- the product 1 · 2 · .. · (m - 1) -/
theorem share_eq (x0 : Option Sl) (num : Nat) (pool got : List Int) {m : Nat} (h1 : 1 ≤ m) (h2 : m ≤ 8) (x6 x7 : Option Sl) (f6 : Sl.free x6 = true) :
    ∃ y6, Sl.free y6 = true ∧ evFor [.ex (evC (.int 1)), .pl 4] kRange2 (.nm 6) b__law_numbered_1 (N8 x0 num pool got (nS m) (nS 1) x6 x7) = .next (N8 x0 num pool got (nS m) (nS (fact (m - 1))) y6 x7) := by
  obtain ⟨ρ', a1, y6, k6, e⟩ := forGo_all (t := .nm 6) (body := b__law_numbered_1) (fun i : Nat => .int (i : Int)) (fun i ρ => ∃ y6, Sl.free y6 = true ∧ ρ = N8 x0 num pool got (nS m) (nS (fact i)) y6 x7) (List.range' 1 (m - 1)) (N8 x0 num pool got (nS m) (nS 1) x6 x7) ⟨x6, f6, rfl⟩ fun i a ρ hi ⟨y6, k6, e⟩ => by
    subst e
    obtain ⟨hlt, ha⟩ := List.getElem?_eq_some_iff.mp hi
    simp at ha hlt
    subst ha
    have hf := fact_le i (by omega)
    have mb : mulB (fact i : Int) ((1 + i : Nat) : Int) = true := mulB_small (by
      have : (2 : Nat) ^ 64 = 18446744073709551616 := by decide
      omega)
    have e : (fact i : Int) * ((1 + i : Nat) : Int) = ((fact (i + 1) : Nat) : Int) := by
      rw [← Int.natCast_mul]
      congr 1
      simp [fact, Nat.add_comm]
    refine ⟨N8 x0 num pool got (nS m) (nS (fact i)) (nS (1 + i)) x7, N8 x0 num pool got (nS m) (nS (fact (i + 1))) (nS (1 + i)) x7, by simp [lineN_eq, n64_eq, cdec_iff, mkF, trimO, trimE, keepIo_none, keepIo_sh, keepIo_ow, keepIo_io, keepIo_lk, keepIo_ex, entry, sSeq, sNil, sRet, sIf, sEx, sAsg, sSet, sRaise, sPar, evRs, bindRs, bindR, evC, evVar, evMv, evPm, evOs, evO, looks, look, pm1, pm2, evAnd, evOr, evNot, evIf, boolR, tvOf, tvAnd, tvOr, tvNot, truthD, Res.d, Sl.d, putR, free_none, free_sh, free_ow, free_ex, free_io, free_lk, Res.sl, pLen, pList, pTuple, pInt, pMax2, pMin2, pTup, pLst, pIsi, pIsiT, tyD, isTy, evCall, argSls, argSl, apart, clash, backA, Sl.wr, Sl.to, evMut, fEqX_int, fNeX_int, fEqX_str, fNeX_str, fIx, fCmp, fAdd, fInt, fIntC, mSet, powB, isL, evIntK, evCh, evInt, fIs, fIsN, isNone_none, isNone_bool, isNone_int, isNone_str, isNone_list, isNone_tuple, evMeth, fNeg, evLc, calmB, lks, Arg.lk, lock1, wipeE, bindT, restE, keepSh, uns, Arg.un, unlk1, tvYes, k6, nS], .inl ?_, nS (1 + i), rfl, rfl⟩
    have mb' : mulB (fact i : Int) (1 + (i : Int)) = true := by simpa using mb
    have e' : (fact i : Int) * (1 + (i : Int)) = ((fact (i + 1) : Nat) : Int) := by simpa using e
    simp [lineN_eq, n64_eq, cdec_iff, mkF, trimO, trimE, keepIo_none, keepIo_sh, keepIo_ow, keepIo_io, keepIo_lk, keepIo_ex, entry, sSeq, sNil, sRet, sIf, sEx, sAsg, sSet, sRaise, sPar, evRs, bindRs, bindR, evC, evVar, evMv, evPm, evOs, evO, looks, look, pm1, pm2, evAnd, evOr, evNot, evIf, boolR, tvOf, tvAnd, tvOr, tvNot, truthD, Res.d, Sl.d, putR, free_none, free_sh, free_ow, free_ex, free_io, free_lk, Res.sl, pLen, pList, pTuple, pInt, pMax2, pMin2, pTup, pLst, pIsi, pIsiT, tyD, isTy, evCall, argSls, argSl, apart, clash, backA, Sl.wr, Sl.to, evMut, fEqX_int, fNeX_int, fEqX_str, fNeX_str, fIx, fCmp, fAdd, fInt, fIntC, mSet, powB, isL, evIntK, evCh, evInt, fIs, fIsN, isNone_none, isNone_bool, isNone_int, isNone_str, isNone_list, isNone_tuple, evMeth, fNeg, b__law_numbered_1, nS, mb', e']
  subst e
  refine ⟨y6, k6, ?_⟩
  have it : kRange2 [.int 1, .int (m : Int)] = some ((List.range' 1 (m - 1)).map fun i : Nat => .int (i : Int)) := by
    have := kR2' (m := 0) (n := m) (by omega) (by omega)
    simpa using this
  have e1 : evOs [.ex (evC (.int 1)), .pl 4] (N8 x0 num pool got (nS m) (nS 1) x6 x7) = .ok [.sh (.int 1), .pl 4] (N8 x0 num pool got (nS m) (nS 1) x6 x7) := rfl
  rw [List.length_range'] at a1
  exact evFor_next e1 rfl it a1 rfl
theorem numbered_turn (x0 : Option Sl) (pool got : List Int) {m num : Nat} (h1 : 1 ≤ m) (h2 : m ≤ 8) (hp : pool.length = m) (hg : got.length ≤ 8) (hn : num < fact m) (x5 x6 x7 : Option Sl) (f5 : Sl.free x5 = true) (f6 : Sl.free x6 = true) (f7 : Sl.free x7 = true) :
    ∃ at_ num' y5 y6 y7 v, at_ < m ∧ pool[at_]? = some v ∧ num' < fact (m - 1) ∧ Sl.free y5 = true ∧ Sl.free y6 = true ∧ Sl.free y7 = true ∧ b__law_numbered_2 (N8 x0 num pool got (nS m) x5 x6 x7) = .next (N8 x0 num' (pool.eraseIdx at_) (got ++ [v]) (nS m) y5 y6 y7) := by
  obtain ⟨y6, k6, g2⟩ := share_eq x0 num pool got h1 h2 x6 x7 f6
  have fp := fact_pos (m - 1)
  have fm : fact m = fact (m - 1) * m := by
    obtain ⟨n, rfl⟩ : ∃ n, m = n + 1 := ⟨m - 1, by omega⟩
    rfl
  have lt : num / fact (m - 1) < m := by
    rw [Nat.div_lt_iff_lt_mul fp, Nat.mul_comm, ← fm]
    exact hn
  have lt2 : num - num / fact (m - 1) * fact (m - 1) < fact (m - 1) := by
    have := Nat.mod_lt num fp
    rw [Nat.mod_def, Nat.mul_comm] at this
    rw [Nat.mul_comm]
    rw [Nat.mul_comm] at this
    exact this
  obtain ⟨q, hq⟩ : ∃ q, q = num / fact (m - 1) := ⟨_, rfl⟩
  have hle : q * fact (m - 1) ≤ num := by rw [hq]; exact Nat.div_mul_le_self num (fact (m - 1))
  have hdiv : ((num / fact (m - 1) : Nat) : Int) = (num : Int) / (fact (m - 1) : Int) := rfl
  rw [← hq] at lt lt2 hdiv
  have hv : pool[q]? = some (pool[q]'(by omega)) := List.getElem?_eq_getElem (by omega)
  refine ⟨q, num - q * fact (m - 1), nS (fact (m - 1)), y6, nS (q), _, lt, hv, lt2, rfl, k6, rfl, ?_⟩
  unfold b__law_numbered_2
  have g1 : sAsg 5 (evC (.int 1)) (N8 x0 num pool got (nS m) x5 x6 x7) = .next (N8 x0 num pool got (nS m) (nS 1) x6 x7) := by simp [lineN_eq, n64_eq, cdec_iff, mkF, trimO, trimE, keepIo_none, keepIo_sh, keepIo_ow, keepIo_io, keepIo_lk, keepIo_ex, entry, sSeq, sNil, sRet, sIf, sEx, sAsg, sSet, sRaise, sPar, evRs, bindRs, bindR, evC, evVar, evMv, evPm, evOs, evO, looks, look, pm1, pm2, evAnd, evOr, evNot, evIf, boolR, tvOf, tvAnd, tvOr, tvNot, truthD, Res.d, Sl.d, putR, free_none, free_sh, free_ow, free_ex, free_io, free_lk, Res.sl, pLen, pList, pTuple, pInt, pMax2, pMin2, pTup, pLst, pIsi, pIsiT, tyD, isTy, evCall, argSls, argSl, apart, clash, backA, Sl.wr, Sl.to, evMut, fEqX_int, fNeX_int, fEqX_str, fNeX_str, fIx, fCmp, fAdd, fInt, fIntC, mSet, powB, isL, evIntK, evCh, evInt, fIs, fIsN, isNone_none, isNone_bool, isNone_int, isNone_str, isNone_list, isNone_tuple, evMeth, fNeg, f5, nS]
  have fl := fact_le (m - 1) (by omega)
  have dB : divB (num : Int) (fact (m - 1) : Int) = true := divB_L (by omega) (Nat.lt_of_le_of_lt (L_lt (n := 20) (by
    have : (2 : Nat) ^ (20 + 1) = 2097152 := by decide
    omega)) (by decide))
  have ed : (num : Int) / (fact (m - 1) : Int) = (q : Int) := hdiv.symm
  have mB : mulB (q : Int) (fact (m - 1) : Int) = true := mulB_small (by
    have : (2 : Nat) ^ 64 = 18446744073709551616 := by decide
    omega)
  have em : (num : Int) - (q : Int) * (fact (m - 1) : Int) = ((num - q * fact (m - 1) : Nat) : Int) := by
    rw [← Int.natCast_mul]
    omega
  have g3 : sAsg 7 (evPm (pm2 fDiv) [.pl 1, .pl 5]) (N8 x0 num pool got (nS m) (nS (fact (m - 1))) y6 x7) = .next (N8 x0 num pool got (nS m) (nS (fact (m - 1))) y6 (nS (q))) := by
    simp [lineN_eq, n64_eq, cdec_iff, mkF, trimO, trimE, keepIo_none, keepIo_sh, keepIo_ow, keepIo_io, keepIo_lk, keepIo_ex, entry, sSeq, sNil, sRet, sIf, sEx, sAsg, sSet, sRaise, sPar, evRs, bindRs, bindR, evC, evVar, evMv, evPm, evOs, evO, looks, look, pm1, pm2, evAnd, evOr, evNot, evIf, boolR, tvOf, tvAnd, tvOr, tvNot, truthD, Res.d, Sl.d, putR, free_none, free_sh, free_ow, free_ex, free_io, free_lk, Res.sl, pLen, pList, pTuple, pInt, pMax2, pMin2, pTup, pLst, pIsi, pIsiT, tyD, isTy, evCall, argSls, argSl, apart, clash, backA, Sl.wr, Sl.to, evMut, fEqX_int, fNeX_int, fEqX_str, fNeX_str, fIx, fCmp, fAdd, fInt, fIntC, mSet, powB, isL, evIntK, evCh, evInt, fIs, fIsN, isNone_none, isNone_bool, isNone_int, isNone_str, isNone_list, isNone_tuple, evMeth, fNeg, nS, dB, f7, ed]
  have g4 : sAsg 1 (evPm (pm2 fSub) [.pl 1, .ex (evPm (pm2 fMul) [.pl 7, .pl 5])]) (N8 x0 num pool got (nS m) (nS (fact (m - 1))) y6 (nS (q))) = .next (N8 x0 (num - q * fact (m - 1)) pool got (nS m) (nS (fact (m - 1))) y6 (nS (q))) := by
    simp only [nS]
    simp [lineN_eq, n64_eq, cdec_iff, mkF, trimO, trimE, keepIo_none, keepIo_sh, keepIo_ow, keepIo_io, keepIo_lk, keepIo_ex, entry, sSeq, sNil, sRet, sIf, sEx, sAsg, sSet, sRaise, sPar, evRs, bindRs, bindR, evC, evVar, evMv, evPm, evOs, evO, looks, look, pm1, pm2, evAnd, evOr, evNot, evIf, boolR, tvOf, tvAnd, tvOr, tvNot, truthD, Res.d, Sl.d, putR, free_none, free_sh, free_ow, free_ex, free_io, free_lk, Res.sl, pLen, pList, pTuple, pInt, pMax2, pMin2, pTup, pLst, pIsi, pIsiT, tyD, isTy, evCall, argSls, argSl, apart, clash, backA, Sl.wr, Sl.to, evMut, fEqX_int, fNeX_int, fEqX_str, fNeX_str, fIx, fCmp, fAdd, fInt, fIntC, mSet, powB, isL, evIntK, evCh, evInt, fIs, fIsN, isNone_none, isNone_bool, isNone_int, isNone_str, isNone_list, isNone_tuple, evMeth, fNeg, mB, em]
  rw [sSeq_next g1, sSeq_next g2, sSeq_next g3, sSeq_next g4]
  have pp : mPopAt (pool.map .int) [.int (q : Int)] = some ((pool.eraseIdx q).map .int, .int (pool[q]'(by omega))) := by
    rw [popAt_nat (v := .int (pool[q]'(by omega))) (by rw [List.getElem?_map, hv]; rfl) (by omega), erase_map]
  have ap : mAppend (got.map .int) [.int (pool[q]'(by omega))] = some ((got ++ [pool[q]'(by omega)]).map .int, .none) := by
    rw [append_ok (by rw [List.length_map]; omega)]
    simp
  simp only [nS]
  simp [lineN_eq, n64_eq, cdec_iff, mkF, trimO, trimE, keepIo_none, keepIo_sh, keepIo_ow, keepIo_io, keepIo_lk, keepIo_ex, entry, sSeq, sNil, sRet, sIf, sEx, sAsg, sSet, sRaise, sPar, evRs, bindRs, bindR, evC, evVar, evMv, evPm, evOs, evO, looks, look, pm1, pm2, evAnd, evOr, evNot, evIf, boolR, tvOf, tvAnd, tvOr, tvNot, truthD, Res.d, Sl.d, putR, free_none, free_sh, free_ow, free_ex, free_io, free_lk, Res.sl, pLen, pList, pTuple, pInt, pMax2, pMin2, pTup, pLst, pIsi, pIsiT, tyD, isTy, evCall, argSls, argSl, apart, clash, backA, Sl.wr, Sl.to, evMut, fEqX_int, fNeX_int, fEqX_str, fNeX_str, fIx, fCmp, fAdd, fInt, fIntC, mSet, powB, isL, evIntK, evCh, evInt, fIs, fIsN, isNone_none, isNone_bool, isNone_int, isNone_str, isNone_list, isNone_tuple, evMeth, fNeg, pp, ap]
theorem rgDn_map (n : Nat) : rgDn (n : Int) n = ((List.range n).map fun i => n - i).map fun i : Nat => .int (i : Int) := by
  unfold rgDn
  rw [List.map_map]
  refine List.map_congr_left fun i hi => ?_
  have := List.mem_range.mp hi
  simp only [Function.comp_def]
  congr 1
  omega
theorem kR3 {n : Nat} (h : n ≤ 1000) : kRange3 [.int (n : Int), .int 0, .int (-1)] = some (((List.range n).map fun i => n - i).map fun i : Nat => .int (i : Int)) := by
  have q : kRange3 [.int (n : Int), .int 0, .int (-1)] = if (-1 : Int) = -1 ∧ (-p62 ≤ (n : Int) ∧ (n : Int) < p62) ∧ (-p62 ≤ 0 ∧ 0 < p62) then some (rgDn n ((n : Int) - 0).toNat) else none := rfl
  have z : ((n : Int) - 0).toNat = n := by omega
  rw [q, p62_eq, e62, if_pos ⟨rfl, ⟨by omega, by omega⟩, by omega, by omega⟩, z, rgDn_map]
theorem numbered_eq {n num : Nat} (h1 : 1 ≤ n) (h2 : n ≤ 8) (hn : num < fact n) : ∃ o : List Int, IsP o ∧ o.length = n ∧ F__law_numbered [.sh (.int n), .sh (.int num)] = .ret (.sh (D o)) [none, none, none, none, none, none, none, none] := by
  have g0 : sPar [.nm 2, .nm 3] [evPm pLRg1 [.pl 0], evPm pLst ([].map .ex)] (entry [.sh (.int n), .sh (.int num)] 6) = .next (N8 (nS n) num ((List.range n).map fun i : Nat => (i : Int)) [] none none none none) := by
    have := lrg_nat (n := n) (by omega)
    rw [rgI0] at this
    simp [lineN_eq, n64_eq, cdec_iff, mkF, trimO, trimE, keepIo_none, keepIo_sh, keepIo_ow, keepIo_io, keepIo_lk, keepIo_ex, entry, sSeq, sNil, sRet, sIf, sEx, sAsg, sSet, sRaise, sPar, evRs, bindRs, bindR, evC, evVar, evMv, evPm, evOs, evO, looks, look, pm1, pm2, evAnd, evOr, evNot, evIf, boolR, tvOf, tvAnd, tvOr, tvNot, truthD, Res.d, Sl.d, putR, free_none, free_sh, free_ow, free_ex, free_io, free_lk, Res.sl, pLen, pList, pTuple, pInt, pMax2, pMin2, pTup, pLst, pIsi, pIsiT, tyD, isTy, evCall, argSls, argSl, apart, clash, backA, Sl.wr, Sl.to, evMut, fEqX_int, fNeX_int, fEqX_str, fNeX_str, fIx, fCmp, fAdd, fInt, fIntC, mSet, powB, isL, evIntK, evCh, evInt, fIs, fIsN, isNone_none, isNone_bool, isNone_int, isNone_str, isNone_list, isNone_tuple, evMeth, fNeg, this, nS]
  obtain ⟨ρ', a1, num', pool, got, x4, x5, x6, x7, k4, k5, k6, k7, hperm, hg, hl, hlt, e⟩ := forGo_all (t := .nm 4) (body := b__law_numbered_2) (fun i : Nat => .int (i : Int)) (fun i ρ => ∃ num' pool got x4 x5 x6 x7, Sl.free x4 = true ∧ Sl.free x5 = true ∧ Sl.free x6 = true ∧ Sl.free x7 = true ∧ (got ++ pool).Perm ((List.range n).map fun i : Nat => (i : Int)) ∧ got.length = i ∧ i ≤ n ∧ num' < fact (n - i) ∧ ρ = N8 (nS n) num' pool got x4 x5 x6 x7)
    ((List.range n).map fun i => n - i) (N8 (nS n) num ((List.range n).map fun i : Nat => (i : Int)) [] none none none none) ⟨num, _, [], none, none, none, none, rfl, rfl, rfl, rfl, by simp, rfl, by omega, by simpa using hn, rfl⟩ fun i a ρ hi ⟨num', pool, got, x4, x5, x6, x7, k4, k5, k6, k7, hp, hg, hl, hlt, e⟩ => by
      subst e
      obtain ⟨hi2, ha⟩ := List.getElem?_eq_some_iff.mp hi
      simp at ha hi2
      subst ha
      have hlen : pool.length = n - i := by
        have := hp.length_eq
        simp at this
        omega
      obtain ⟨at_, num2, y5, y6, y7, v, l1, l2, l3, m5, m6, m7, e⟩ := numbered_turn (nS n) pool got (m := n - i) (num := num') (by omega) (by omega) hlen (by omega) hlt x5 x6 x7 k5 k6 k7
      refine ⟨N8 (nS n) num' pool got (nS (n - i)) x5 x6 x7, _, by simp [lineN_eq, n64_eq, cdec_iff, mkF, trimO, trimE, keepIo_none, keepIo_sh, keepIo_ow, keepIo_io, keepIo_lk, keepIo_ex, entry, sSeq, sNil, sRet, sIf, sEx, sAsg, sSet, sRaise, sPar, evRs, bindRs, bindR, evC, evVar, evMv, evPm, evOs, evO, looks, look, pm1, pm2, evAnd, evOr, evNot, evIf, boolR, tvOf, tvAnd, tvOr, tvNot, truthD, Res.d, Sl.d, putR, free_none, free_sh, free_ow, free_ex, free_io, free_lk, Res.sl, pLen, pList, pTuple, pInt, pMax2, pMin2, pTup, pLst, pIsi, pIsiT, tyD, isTy, evCall, argSls, argSl, apart, clash, backA, Sl.wr, Sl.to, evMut, fEqX_int, fNeX_int, fEqX_str, fNeX_str, fIx, fCmp, fAdd, fInt, fIntC, mSet, powB, isL, evIntK, evCh, evInt, fIs, fIsN, isNone_none, isNone_bool, isNone_int, isNone_str, isNone_list, isNone_tuple, evMeth, fNeg, evLc, calmB, lks, Arg.lk, lock1, wipeE, bindT, restE, keepSh, uns, Arg.un, unlk1, tvYes, k4, nS], .inl e, num2, pool.eraseIdx at_, got ++ [v], nS (n - i), y5, y6, y7, rfl, m5, m6, m7, ?_, by simp [hg], by omega, by rw [show n - (i + 1) = n - i - 1 by omega]; exact l3, rfl⟩
      refine List.Perm.trans ?_ hp
      rw [List.append_assoc]
      refine List.Perm.append_left got ?_
      exact take_out l2
  subst e
  simp at hg hl hlt
  have hpool : pool = [] := by
    have := hperm.length_eq
    simp at this
    exact List.eq_nil_of_length_eq_zero (by omega)
  subst hpool
  rw [List.append_nil] at hperm
  refine ⟨got, ?_, hg, ?_⟩
  · unfold IsP
    rw [hg]
    exact hperm
  · unfold F__law_numbered mkF ev__law_numbered
    have e1 : evOs [.pl 0, .ex (evC (.int 0)), .ex (evPm (pm1 fNeg) [.ex (evC (.int 1))])] (N8 (nS n) num ((List.range n).map fun i : Nat => (i : Int)) [] none none none none) = .ok [.pl 0, .sh (.int 0), .sh (.int (-1))] (N8 (nS n) num ((List.range n).map fun i : Nat => (i : Int)) [] none none none none) := by simp [lineN_eq, n64_eq, cdec_iff, mkF, trimO, trimE, keepIo_none, keepIo_sh, keepIo_ow, keepIo_io, keepIo_lk, keepIo_ex, entry, sSeq, sNil, sRet, sIf, sEx, sAsg, sSet, sRaise, sPar, evRs, bindRs, bindR, evC, evVar, evMv, evPm, evOs, evO, looks, look, pm1, pm2, evAnd, evOr, evNot, evIf, boolR, tvOf, tvAnd, tvOr, tvNot, truthD, Res.d, Sl.d, putR, free_none, free_sh, free_ow, free_ex, free_io, free_lk, Res.sl, pLen, pList, pTuple, pInt, pMax2, pMin2, pTup, pLst, pIsi, pIsiT, tyD, isTy, evCall, argSls, argSl, apart, clash, backA, Sl.wr, Sl.to, evMut, fEqX_int, fNeX_int, fEqX_str, fNeX_str, fIx, fCmp, fAdd, fInt, fIntC, mSet, powB, isL, evIntK, evCh, evInt, fIs, fIsN, isNone_none, isNone_bool, isNone_int, isNone_str, isNone_list, isNone_tuple, evMeth, fNeg, nS]
    rw [sSeq_next g0, sSeq_next (evFor_next (ρ3 := N8 (nS n) num' [] got x4 x5 x6 x7) e1 rfl (kR3 (by omega)) a1 rfl)]
    simp [lineN_eq, n64_eq, cdec_iff, mkF, trimO, trimE, keepIo_none, keepIo_sh, keepIo_ow, keepIo_io, keepIo_lk, keepIo_ex, entry, sSeq, sNil, sRet, sIf, sEx, sAsg, sSet, sRaise, sPar, evRs, bindRs, bindR, evC, evVar, evMv, evPm, evOs, evO, looks, look, pm1, pm2, evAnd, evOr, evNot, evIf, boolR, tvOf, tvAnd, tvOr, tvNot, truthD, Res.d, Sl.d, putR, free_none, free_sh, free_ow, free_ex, free_io, free_lk, Res.sl, pLen, pList, pTuple, pInt, pMax2, pMin2, pTup, pLst, pIsi, pIsiT, tyD, isTy, evCall, argSls, argSl, apart, clash, backA, Sl.wr, Sl.to, evMut, fEqX_int, fNeX_int, fEqX_str, fNeX_str, fIx, fCmp, fAdd, fInt, fIntC, mSet, powB, isL, evIntK, evCh, evInt, fIs, fIsN, isNone_none, isNone_bool, isNone_int, isNone_str, isNone_list, isNone_tuple, evMeth, fNeg, nS, D, keepIo_free k4, keepIo_free k5, keepIo_free k6, keepIo_free k7]
/-! the law -/
theorem same_draw : F__law_draw = LawC.F__law_draw := rfl
theorem same_feed : F__law_feed = LawC.F__law_feed := rfl
abbrev W9 (d : PyData) (k : Nat) (f : PyData) (x3 x4 x5 x6 x7 x8 : Option Sl) : Ev.Env := [some (.sh d), nS k, some (.ow f), x3, x4, x5, x6, x7, x8]
theorem total_eq (d : PyData) (k : Nat) (f : PyData) {m : Nat} (h2 : m ≤ 8) (x5 x6 x7 x8 : Option Sl) (f5 : Sl.free x5 = true) :
    ∃ y5, Sl.free y5 = true ∧ evFor [.ex (evC (.int 1)), .ex (evPm (pm2 fAdd) [.pl 3, .ex (evC (.int 1))])] kRange2 (.nm 5) b_law_1 (W9 d k f (nS m) (nS 1) x5 x6 x7 x8) = .next (W9 d k f (nS m) (nS (fact m)) y5 x6 x7 x8) := by
  obtain ⟨ρ', a1, y5, k5, e⟩ := forGo_all (t := .nm 5) (body := b_law_1) (fun i : Nat => .int (i : Int)) (fun i ρ => ∃ y5, Sl.free y5 = true ∧ ρ = W9 d k f (nS m) (nS (fact i)) y5 x6 x7 x8) (List.range' 1 m) (W9 d k f (nS m) (nS 1) x5 x6 x7 x8) ⟨x5, f5, rfl⟩ fun i a ρ hi ⟨y5, k5, e⟩ => by
    subst e
    obtain ⟨hlt, ha⟩ := List.getElem?_eq_some_iff.mp hi
    simp at ha hlt
    subst ha
    have hf := fact_le i (by omega)
    have mb : mulB (fact i : Int) ((1 + i : Nat) : Int) = true := mulB_small (by
      have : (2 : Nat) ^ 64 = 18446744073709551616 := by decide
      omega)
    have e : (fact i : Int) * ((1 + i : Nat) : Int) = ((fact (i + 1) : Nat) : Int) := by
      rw [← Int.natCast_mul]
      congr 1
      simp [fact, Nat.add_comm]
    refine ⟨W9 d k f (nS m) (nS (fact i)) (nS (1 + i)) x6 x7 x8, W9 d k f (nS m) (nS (fact (i + 1))) (nS (1 + i)) x6 x7 x8, by simp [lineN_eq, n64_eq, cdec_iff, mkF, trimO, trimE, keepIo_none, keepIo_sh, keepIo_ow, keepIo_io, keepIo_lk, keepIo_ex, entry, sSeq, sNil, sRet, sIf, sEx, sAsg, sSet, sRaise, sPar, evRs, bindRs, bindR, evC, evVar, evMv, evPm, evOs, evO, looks, look, pm1, pm2, evAnd, evOr, evNot, evIf, boolR, tvOf, tvAnd, tvOr, tvNot, truthD, Res.d, Sl.d, putR, free_none, free_sh, free_ow, free_ex, free_io, free_lk, Res.sl, pLen, pList, pTuple, pInt, pMax2, pMin2, pTup, pLst, pIsi, pIsiT, tyD, isTy, evCall, argSls, argSl, apart, clash, backA, Sl.wr, Sl.to, evMut, fEqX_int, fNeX_int, fEqX_str, fNeX_str, fIx, fCmp, fAdd, fInt, fIntC, mSet, powB, isL, evIntK, evCh, evInt, fIs, fIsN, isNone_none, isNone_bool, isNone_int, isNone_str, isNone_list, isNone_tuple, evMeth, fNeg, evLc, calmB, lks, Arg.lk, lock1, wipeE, bindT, restE, keepSh, uns, Arg.un, unlk1, tvYes, k5, nS], .inl ?_, nS (1 + i), rfl, rfl⟩
    have mb' : mulB (fact i : Int) (1 + (i : Int)) = true := by simpa using mb
    have e' : (fact i : Int) * (1 + (i : Int)) = ((fact (i + 1) : Nat) : Int) := by simpa using e
    simp [lineN_eq, n64_eq, cdec_iff, mkF, trimO, trimE, keepIo_none, keepIo_sh, keepIo_ow, keepIo_io, keepIo_lk, keepIo_ex, entry, sSeq, sNil, sRet, sIf, sEx, sAsg, sSet, sRaise, sPar, evRs, bindRs, bindR, evC, evVar, evMv, evPm, evOs, evO, looks, look, pm1, pm2, evAnd, evOr, evNot, evIf, boolR, tvOf, tvAnd, tvOr, tvNot, truthD, Res.d, Sl.d, putR, free_none, free_sh, free_ow, free_ex, free_io, free_lk, Res.sl, pLen, pList, pTuple, pInt, pMax2, pMin2, pTup, pLst, pIsi, pIsiT, tyD, isTy, evCall, argSls, argSl, apart, clash, backA, Sl.wr, Sl.to, evMut, fEqX_int, fNeX_int, fEqX_str, fNeX_str, fIx, fCmp, fAdd, fInt, fIntC, mSet, powB, isL, evIntK, evCh, evInt, fIs, fIsN, isNone_none, isNone_bool, isNone_int, isNone_str, isNone_list, isNone_tuple, evMeth, fNeg, b_law_1, nS, mb', e']
  subst e
  refine ⟨y5, k5, ?_⟩
  have it : kRange2 [.int 1, .int ((m : Int) + 1)] = some ((List.range' 1 m).map fun i : Nat => .int (i : Int)) := by
    have := kR2' (m := 0) (n := m + 1) (by omega) (by omega)
    simpa using this
  have e1 : evOs [.ex (evC (.int 1)), .ex (evPm (pm2 fAdd) [.pl 3, .ex (evC (.int 1))])] (W9 d k f (nS m) (nS 1) x5 x6 x7 x8) = .ok [.sh (.int 1), .sh (.int ((m : Int) + 1))] (W9 d k f (nS m) (nS 1) x5 x6 x7 x8) := by simp [lineN_eq, n64_eq, cdec_iff, mkF, trimO, trimE, keepIo_none, keepIo_sh, keepIo_ow, keepIo_io, keepIo_lk, keepIo_ex, entry, sSeq, sNil, sRet, sIf, sEx, sAsg, sSet, sRaise, sPar, evRs, bindRs, bindR, evC, evVar, evMv, evPm, evOs, evO, looks, look, pm1, pm2, evAnd, evOr, evNot, evIf, boolR, tvOf, tvAnd, tvOr, tvNot, truthD, Res.d, Sl.d, putR, free_none, free_sh, free_ow, free_ex, free_io, free_lk, Res.sl, pLen, pList, pTuple, pInt, pMax2, pMin2, pTup, pLst, pIsi, pIsiT, tyD, isTy, evCall, argSls, argSl, apart, clash, backA, Sl.wr, Sl.to, evMut, fEqX_int, fNeX_int, fEqX_str, fNeX_str, fIx, fCmp, fAdd, fInt, fIntC, mSet, powB, isL, evIntK, evCh, evInt, fIs, fIsN, isNone_none, isNone_bool, isNone_int, isNone_str, isNone_list, isNone_tuple, evMeth, fNeg, nS]
  rw [List.length_range'] at a1
  exact evFor_next e1 rfl it a1 rfl
theorem one_order (d : PyData) (k : Nat) (f : PyData) {m num : Nat} (h1 : 1 ≤ m) (h2 : m ≤ 8) (hn : num < fact m) (x4 x5 x6 x8 : Option Sl) : b_law_2 (W9 d k f (nS m) x4 x5 x6 (nS num) x8) = .next (W9 d k f (nS m) x4 x5 x6 (nS num) x8) := by
  obtain ⟨o, ho, hl, e⟩ := numbered_eq h1 h2 hn
  have r := right_eq ho (by omega) (by omega)
  simp [lineN_eq, n64_eq, cdec_iff, mkF, trimO, trimE, keepIo_none, keepIo_sh, keepIo_ow, keepIo_io, keepIo_lk, keepIo_ex, entry, sSeq, sNil, sRet, sIf, sEx, sAsg, sSet, sRaise, sPar, evRs, bindRs, bindR, evC, evVar, evMv, evPm, evOs, evO, looks, look, pm1, pm2, evAnd, evOr, evNot, evIf, boolR, tvOf, tvAnd, tvOr, tvNot, truthD, Res.d, Sl.d, putR, free_none, free_sh, free_ow, free_ex, free_io, free_lk, Res.sl, pLen, pList, pTuple, pInt, pMax2, pMin2, pTup, pLst, pIsi, pIsiT, tyD, isTy, evCall, argSls, argSl, apart, clash, backA, Sl.wr, Sl.to, evMut, fEqX_int, fNeX_int, fEqX_str, fNeX_str, fIx, fCmp, fAdd, fInt, fIntC, mSet, powB, isL, evIntK, evCh, evInt, fIs, fIsN, isNone_none, isNone_bool, isNone_int, isNone_str, isNone_list, isNone_tuple, evMeth, fNeg, b_law_2, nS, e, r]
def Fed (n : Nat) (f : PyData) : Prop := ∃ m, m ≤ n ∧ FeedOk m f
theorem Fed.draw {n : Nat} {f : PyData} {m : Int} (h : Fed n f) (hn : n ≤ 1000000) (hm : 0 < m) (hL : L m < 9000) : ∃ r f', 0 ≤ r ∧ r < m ∧ Fed (n + 1) f' ∧ F__law_draw [.io f, .sh (.int m)] = .ret (.sh (.int r)) [some (.io f'), none, none, none, none] := by
  obtain ⟨q, hq, hf⟩ := h
  obtain ⟨r, f', h1, h2, h3, h4⟩ := draw_ok hf (by omega) hm hL
  exact ⟨r, f', h1, h2, ⟨q + 1, by omega, h3⟩, by rw [same_draw]; exact h4⟩
theorem small_L {m : Int} (h0 : 0 ≤ m) (h : m ≤ 100000) : L m < 9000 := Nat.lt_of_le_of_lt (L_lt (n := 20) (by
  have : (2 : Nat) ^ (20 + 1) = 2097152 := by decide
  omega)) (by decide)
theorem many_turn (d : PyData) (k : Nat) {n : Nat} {f : PyData} (hf : Fed n f) (hn : n ≤ 1000) {m : Nat} (h1 : 1 ≤ m) (h2 : m ≤ 8) (x4 x5 x6 x7 x8 : Option Sl) (f4 : Sl.free x4 = true) (f5 : Sl.free x5 = true) (f6 : Sl.free x6 = true) (f7 : Sl.free x7 = true) :
    ∃ f' y4 y5 y6 y7, Fed (n + 1) f' ∧ Sl.free y4 = true ∧ Sl.free y5 = true ∧ Sl.free y6 = true ∧ Sl.free y7 = true ∧ b_law_3 (W9 d k f (nS m) x4 x5 x6 x7 x8) = .next (W9 d k f' (nS m) y4 y5 y6 y7 x8) := by
  have g1 : sAsg 4 (evC (.int 1)) (W9 d k f (nS m) x4 x5 x6 x7 x8) = .next (W9 d k f (nS m) (nS 1) x5 x6 x7 x8) := by simp [lineN_eq, n64_eq, cdec_iff, mkF, trimO, trimE, keepIo_none, keepIo_sh, keepIo_ow, keepIo_io, keepIo_lk, keepIo_ex, entry, sSeq, sNil, sRet, sIf, sEx, sAsg, sSet, sRaise, sPar, evRs, bindRs, bindR, evC, evVar, evMv, evPm, evOs, evO, looks, look, pm1, pm2, evAnd, evOr, evNot, evIf, boolR, tvOf, tvAnd, tvOr, tvNot, truthD, Res.d, Sl.d, putR, free_none, free_sh, free_ow, free_ex, free_io, free_lk, Res.sl, pLen, pList, pTuple, pInt, pMax2, pMin2, pTup, pLst, pIsi, pIsiT, tyD, isTy, evCall, argSls, argSl, apart, clash, backA, Sl.wr, Sl.to, evMut, fEqX_int, fNeX_int, fEqX_str, fNeX_str, fIx, fCmp, fAdd, fInt, fIntC, mSet, powB, isL, evIntK, evCh, evInt, fIs, fIsN, isNone_none, isNone_bool, isNone_int, isNone_str, isNone_list, isNone_tuple, evMeth, fNeg, f4, nS]
  obtain ⟨y5, k5, g2⟩ := total_eq d k f h2 x5 x6 x7 x8 f5
  have fl := fact_le m h2
  have fp := fact_pos m
  have hmx : ∃ z : Int, 0 < z ∧ z ≤ 100000 ∧ (z ≤ 1 ∨ z ≤ (fact m : Int) - 59) ∧ pMax2 [.int 1, .int ((fact m : Int) - 59)] = some (.sh (.int z)) := by
    by_cases c : (fact m : Int) - 59 > 1
    · exact ⟨(fact m : Int) - 59, by omega, by omega, .inr (by omega), by simp [pMax2, c]⟩
    · exact ⟨1, by omega, by omega, .inl (by omega), by simp [pMax2, c]⟩
  obtain ⟨z, z1, z2, z3, z4⟩ := hmx
  obtain ⟨r, f', r1, r2, hf', hd⟩ := hf.draw (by omega) z1 (small_L (by omega) z2)
  obtain ⟨b, rfl⟩ : ∃ b : Nat, r = b := ⟨r.toNat, by omega⟩
  have g3 : sAsg 6 (evCall F__law_draw [.pl 2, .ex (evPm pMax2 [.ex (evC (.int 1)), .ex (evPm (pm2 fSub) [.pl 4, .ex (evC (.int 59))])])]) (W9 d k f (nS m) (nS (fact m)) y5 x6 x7 x8) = .next (W9 d k f' (nS m) (nS (fact m)) y5 (nS b) x7 x8) := by
    have z4' := z4
    unfold pMax2 at z4'
    simp [lineN_eq, n64_eq, cdec_iff, mkF, trimO, trimE, keepIo_none, keepIo_sh, keepIo_ow, keepIo_io, keepIo_lk, keepIo_ex, entry, sSeq, sNil, sRet, sIf, sEx, sAsg, sSet, sRaise, sPar, evRs, bindRs, bindR, evC, evVar, evMv, evPm, evOs, evO, looks, look, pm1, pm2, evAnd, evOr, evNot, evIf, boolR, tvOf, tvAnd, tvOr, tvNot, truthD, Res.d, Sl.d, putR, free_none, free_sh, free_ow, free_ex, free_io, free_lk, Res.sl, pLen, pList, pTuple, pInt, pMax2, pMin2, pTup, pLst, pIsi, pIsiT, tyD, isTy, evCall, argSls, argSl, apart, clash, backA, Sl.wr, Sl.to, evMut, fEqX_int, fNeX_int, fEqX_str, fNeX_str, fIx, fCmp, fAdd, fInt, fIntC, mSet, powB, isL, evIntK, evCh, evInt, fIs, fIsN, isNone_none, isNone_bool, isNone_int, isNone_str, isNone_list, isNone_tuple, evMeth, fNeg, nS, z4', hd, f6]
  have hmn : ∃ e : Nat, e ≤ fact m ∧ pMin2 [.int (fact m : Int), .int ((b : Int) + 60)] = some (.sh (.int (e : Int))) := by
    by_cases c : (b : Int) + 60 < fact m
    · exact ⟨b + 60, by omega, by simp [pMin2, c]⟩
    · exact ⟨fact m, by omega, by simp [pMin2, c]⟩
  obtain ⟨e, e1, e2⟩ := hmn
  have hb : b ≤ 100000 := by omega
  have it : kRange2 [.int (b : Int), .int (e : Int)] = some ((List.range' b (e - b)).map fun i : Nat => .int (i : Int)) := by
    rw [kR2 (by omega) (by omega), rgI_map]
  have e3 : evOs [.pl 6, .ex (evPm pMin2 [.pl 4, .ex (evPm (pm2 fAdd) [.pl 6, .ex (evC (.int 60))])])] (W9 d k f' (nS m) (nS (fact m)) y5 (nS b) x7 x8) = .ok [.pl 6, .sh (.int (e : Int))] (W9 d k f' (nS m) (nS (fact m)) y5 (nS b) x7 x8) := by
    have e2' := e2
    unfold pMin2 at e2'
    simp [lineN_eq, n64_eq, cdec_iff, mkF, trimO, trimE, keepIo_none, keepIo_sh, keepIo_ow, keepIo_io, keepIo_lk, keepIo_ex, entry, sSeq, sNil, sRet, sIf, sEx, sAsg, sSet, sRaise, sPar, evRs, bindRs, bindR, evC, evVar, evMv, evPm, evOs, evO, looks, look, pm1, pm2, evAnd, evOr, evNot, evIf, boolR, tvOf, tvAnd, tvOr, tvNot, truthD, Res.d, Sl.d, putR, free_none, free_sh, free_ow, free_ex, free_io, free_lk, Res.sl, pLen, pList, pTuple, pInt, pMax2, pMin2, pTup, pLst, pIsi, pIsiT, tyD, isTy, evCall, argSls, argSl, apart, clash, backA, Sl.wr, Sl.to, evMut, fEqX_int, fNeX_int, fEqX_str, fNeX_str, fIx, fCmp, fAdd, fInt, fIntC, mSet, powB, isL, evIntK, evCh, evInt, fIs, fIsN, isNone_none, isNone_bool, isNone_int, isNone_str, isNone_list, isNone_tuple, evMeth, fNeg, nS, e2']
  obtain ⟨ρ', a1, y7, k7, e4⟩ := forGo_all (t := .nm 7) (body := b_law_2) (fun i : Nat => .int (i : Int)) (fun i ρ => ∃ y7, Sl.free y7 = true ∧ ρ = W9 d k f' (nS m) (nS (fact m)) y5 (nS b) y7 x8) (List.range' b (e - b)) (W9 d k f' (nS m) (nS (fact m)) y5 (nS b) x7 x8) ⟨x7, f7, rfl⟩ fun i a ρ hi ⟨y7, k7, e⟩ => by
    subst e
    obtain ⟨hlt, ha⟩ := List.getElem?_eq_some_iff.mp hi
    simp at ha hlt
    subst ha
    exact ⟨W9 d k f' (nS m) (nS (fact m)) y5 (nS b) (nS (b + i)) x8, _, by simp [lineN_eq, n64_eq, cdec_iff, mkF, trimO, trimE, keepIo_none, keepIo_sh, keepIo_ow, keepIo_io, keepIo_lk, keepIo_ex, entry, sSeq, sNil, sRet, sIf, sEx, sAsg, sSet, sRaise, sPar, evRs, bindRs, bindR, evC, evVar, evMv, evPm, evOs, evO, looks, look, pm1, pm2, evAnd, evOr, evNot, evIf, boolR, tvOf, tvAnd, tvOr, tvNot, truthD, Res.d, Sl.d, putR, free_none, free_sh, free_ow, free_ex, free_io, free_lk, Res.sl, pLen, pList, pTuple, pInt, pMax2, pMin2, pTup, pLst, pIsi, pIsiT, tyD, isTy, evCall, argSls, argSl, apart, clash, backA, Sl.wr, Sl.to, evMut, fEqX_int, fNeX_int, fEqX_str, fNeX_str, fIx, fCmp, fAdd, fInt, fIntC, mSet, powB, isL, evIntK, evCh, evInt, fIs, fIsN, isNone_none, isNone_bool, isNone_int, isNone_str, isNone_list, isNone_tuple, evMeth, fNeg, evLc, calmB, lks, Arg.lk, lock1, wipeE, bindT, restE, keepSh, uns, Arg.un, unlk1, tvYes, k7, nS], .inl (one_order d k f' h1 h2 (by omega) _ _ _ _), nS (b + i), rfl, rfl⟩
  subst e4
  unfold b_law_3
  rw [sSeq_next g1, sSeq_next g2, sSeq_next g3]
  exact ⟨f', nS (fact m), y5, nS b, y7, hf', rfl, k5, rfl, k7, evFor_next e3 rfl it a1 rfl⟩
theorem last_turn (d : PyData) (k : Nat) {n : Nat} {f : PyData} (hf : Fed n f) (hn : n ≤ 1000) (x3 x4 x5 x6 x7 x8 : Option Sl) : ∃ f', Fed (n + 1) f' ∧ b_law_4 (W9 d k f x3 x4 x5 x6 x7 x8) = .next (W9 d k f' x3 x4 x5 x6 x7 x8) := by
  obtain ⟨r, f', r1, r2, hf', hd⟩ := hf.draw (m := 40320) (by omega) (by omega) (small_L (by omega) (by omega))
  obtain ⟨b, rfl⟩ : ∃ b : Nat, r = b := ⟨r.toNat, by omega⟩
  have f8 : fact 8 = 40320 := by decide
  obtain ⟨o, ho, hl, e⟩ := numbered_eq (n := 8) (num := b) (by omega) (by omega) (by omega)
  have r := right_eq ho (by omega) (by omega)
  have e' : F__law_numbered [.sh (.int 8), .sh (.int (b : Int))] = .ret (.sh (D o)) [none, none, none, none, none, none, none, none] := e
  exact ⟨f', hf', by simp [lineN_eq, n64_eq, cdec_iff, mkF, trimO, trimE, keepIo_none, keepIo_sh, keepIo_ow, keepIo_io, keepIo_lk, keepIo_ex, entry, sSeq, sNil, sRet, sIf, sEx, sAsg, sSet, sRaise, sPar, evRs, bindRs, bindR, evC, evVar, evMv, evPm, evOs, evO, looks, look, pm1, pm2, evAnd, evOr, evNot, evIf, boolR, tvOf, tvAnd, tvOr, tvNot, truthD, Res.d, Sl.d, putR, free_none, free_sh, free_ow, free_ex, free_io, free_lk, Res.sl, pLen, pList, pTuple, pInt, pMax2, pMin2, pTup, pLst, pIsi, pIsiT, tyD, isTy, evCall, argSls, argSl, apart, clash, backA, Sl.wr, Sl.to, evMut, fEqX_int, fNeX_int, fEqX_str, fNeX_str, fIx, fCmp, fAdd, fInt, fIntC, mSet, powB, isL, evIntK, evCh, evInt, fIs, fIsN, isNone_none, isNone_bool, isNone_int, isNone_str, isNone_list, isNone_tuple, evMeth, fNeg, b_law_4, hd, e', r]⟩
theorem round_eq (ns : List Int) (hb : ∀ z ∈ ns, Builtin.Int.intBits z ≤ 1048576) (k : Nat) (hk : k ≤ 100) (x2 x3 x4 x5 x6 x7 x8 : Option Sl) (f2 : Sl.free x2 = true) (f3 : Sl.free x3 = true) (f4 : Sl.free x4 = true) (f5 : Sl.free x5 = true) (f6 : Sl.free x6 = true) (f7 : Sl.free x7 = true) (f8 : Sl.free x8 = true) :
    ∃ y2 y3 y4 y5 y6 y7 y8, Sl.free y2 = true ∧ Sl.free y3 = true ∧ Sl.free y4 = true ∧ Sl.free y5 = true ∧ Sl.free y6 = true ∧ Sl.free y7 = true ∧ Sl.free y8 = true ∧ b_law_5 [some (.sh (.list (ns.map .int))), nS k, x2, x3, x4, x5, x6, x7, x8] = .next [some (.sh (.list (ns.map .int))), nS k, y2, y3, y4, y5, y6, y7, y8] := by
  obtain ⟨f, hf, hd⟩ := feed_ok hb k hk
  rw [← same_feed] at hd
  have hf0 : Fed 0 f := ⟨0, by omega, hf⟩
  have g1 : sAsg 2 (evCall F__law_feed [.pl 0, .pl 1]) [some (.sh (.list (ns.map .int))), nS k, x2, x3, x4, x5, x6, x7, x8] = .next (W9 (.list (ns.map .int)) k f x3 x4 x5 x6 x7 x8) := by simp [lineN_eq, n64_eq, cdec_iff, mkF, trimO, trimE, keepIo_none, keepIo_sh, keepIo_ow, keepIo_io, keepIo_lk, keepIo_ex, entry, sSeq, sNil, sRet, sIf, sEx, sAsg, sSet, sRaise, sPar, evRs, bindRs, bindR, evC, evVar, evMv, evPm, evOs, evO, looks, look, pm1, pm2, evAnd, evOr, evNot, evIf, boolR, tvOf, tvAnd, tvOr, tvNot, truthD, Res.d, Sl.d, putR, free_none, free_sh, free_ow, free_ex, free_io, free_lk, Res.sl, pLen, pList, pTuple, pInt, pMax2, pMin2, pTup, pLst, pIsi, pIsiT, tyD, isTy, evCall, argSls, argSl, apart, clash, backA, Sl.wr, Sl.to, evMut, fEqX_int, fNeX_int, fEqX_str, fNeX_str, fIx, fCmp, fAdd, fInt, fIntC, mSet, powB, isL, evIntK, evCh, evInt, fIs, fIsN, isNone_none, isNone_bool, isNone_int, isNone_str, isNone_list, isNone_tuple, evMeth, fNeg, nS, hd, f2]
  have it : kRange2 [.int 1, .int 8] = some ((List.range' 1 7).map fun i : Nat => .int (i : Int)) := by
    have := kR2' (m := 0) (n := 8) (by omega) (by omega)
    simpa using this
  obtain ⟨ρ', a1, f', y3, y4, y5, y6, y7, hf', k3, k4, k5, k6, k7, e⟩ := forGo_all (t := .nm 3) (body := b_law_3) (fun i : Nat => .int (i : Int)) (fun i ρ => ∃ f' y3 y4 y5 y6 y7, Fed i f' ∧ Sl.free y3 = true ∧ Sl.free y4 = true ∧ Sl.free y5 = true ∧ Sl.free y6 = true ∧ Sl.free y7 = true ∧ ρ = W9 (.list (ns.map .int)) k f' y3 y4 y5 y6 y7 x8) (List.range' 1 7) (W9 (.list (ns.map .int)) k f x3 x4 x5 x6 x7 x8)
    ⟨f, x3, x4, x5, x6, x7, hf0, f3, f4, f5, f6, f7, rfl⟩ fun i a ρ hi ⟨f', y3, y4, y5, y6, y7, hf', k3, k4, k5, k6, k7, e⟩ => by
      subst e
      obtain ⟨hlt, ha⟩ := List.getElem?_eq_some_iff.mp hi
      simp at ha hlt
      subst ha
      obtain ⟨f2', z4, z5, z6, z7, hz, m4, m5, m6, m7, e⟩ := many_turn (.list (ns.map .int)) k hf' (by omega) (m := 1 + i) (by omega) (by omega) y4 y5 y6 y7 x8 k4 k5 k6 k7
      exact ⟨W9 (.list (ns.map .int)) k f' (nS (1 + i)) y4 y5 y6 y7 x8, _, by simp [lineN_eq, n64_eq, cdec_iff, mkF, trimO, trimE, keepIo_none, keepIo_sh, keepIo_ow, keepIo_io, keepIo_lk, keepIo_ex, entry, sSeq, sNil, sRet, sIf, sEx, sAsg, sSet, sRaise, sPar, evRs, bindRs, bindR, evC, evVar, evMv, evPm, evOs, evO, looks, look, pm1, pm2, evAnd, evOr, evNot, evIf, boolR, tvOf, tvAnd, tvOr, tvNot, truthD, Res.d, Sl.d, putR, free_none, free_sh, free_ow, free_ex, free_io, free_lk, Res.sl, pLen, pList, pTuple, pInt, pMax2, pMin2, pTup, pLst, pIsi, pIsiT, tyD, isTy, evCall, argSls, argSl, apart, clash, backA, Sl.wr, Sl.to, evMut, fEqX_int, fNeX_int, fEqX_str, fNeX_str, fIx, fCmp, fAdd, fInt, fIntC, mSet, powB, isL, evIntK, evCh, evInt, fIs, fIsN, isNone_none, isNone_bool, isNone_int, isNone_str, isNone_list, isNone_tuple, evMeth, fNeg, evLc, calmB, lks, Arg.lk, lock1, wipeE, bindT, restE, keepSh, uns, Arg.un, unlk1, tvYes, k3, nS], .inl e, f2', nS (1 + i), z4, z5, z6, z7, hz, rfl, m4, m5, m6, m7, rfl⟩
  subst e
  have e1 : evOs [.ex (evC (.int 1)), .ex (evC (.int 8))] (W9 (.list (ns.map .int)) k f x3 x4 x5 x6 x7 x8) = .ok [.sh (.int 1), .sh (.int 8)] (W9 (.list (ns.map .int)) k f x3 x4 x5 x6 x7 x8) := rfl
  have g2 := evFor_next (ρ3 := W9 (.list (ns.map .int)) k f' y3 y4 y5 y6 y7 x8) e1 rfl it a1 rfl
  obtain ⟨ρ', a1, f2', y8, hf2, k8, e⟩ := forGo_all (t := .nm 8) (body := b_law_4) (fun i : Nat => .int (i : Int)) (fun i ρ => ∃ f' y8, Fed (7 + i) f' ∧ Sl.free y8 = true ∧ ρ = W9 (.list (ns.map .int)) k f' y3 y4 y5 y6 y7 y8) (List.range 4) (W9 (.list (ns.map .int)) k f' y3 y4 y5 y6 y7 x8)
    ⟨f', x8, by simpa using hf', f8, rfl⟩ fun i a ρ hi ⟨f', y8, hf', k8, e⟩ => by
      subst e
      obtain ⟨hlt, ha⟩ := List.getElem?_eq_some_iff.mp hi
      simp at ha hlt
      subst ha
      obtain ⟨f2', hz, e⟩ := last_turn (.list (ns.map .int)) k hf' (by omega) y3 y4 y5 y6 y7 (nS i)
      exact ⟨W9 (.list (ns.map .int)) k f' y3 y4 y5 y6 y7 (nS i), _, by simp [lineN_eq, n64_eq, cdec_iff, mkF, trimO, trimE, keepIo_none, keepIo_sh, keepIo_ow, keepIo_io, keepIo_lk, keepIo_ex, entry, sSeq, sNil, sRet, sIf, sEx, sAsg, sSet, sRaise, sPar, evRs, bindRs, bindR, evC, evVar, evMv, evPm, evOs, evO, looks, look, pm1, pm2, evAnd, evOr, evNot, evIf, boolR, tvOf, tvAnd, tvOr, tvNot, truthD, Res.d, Sl.d, putR, free_none, free_sh, free_ow, free_ex, free_io, free_lk, Res.sl, pLen, pList, pTuple, pInt, pMax2, pMin2, pTup, pLst, pIsi, pIsiT, tyD, isTy, evCall, argSls, argSl, apart, clash, backA, Sl.wr, Sl.to, evMut, fEqX_int, fNeX_int, fEqX_str, fNeX_str, fIx, fCmp, fAdd, fInt, fIntC, mSet, powB, isL, evIntK, evCh, evInt, fIs, fIsN, isNone_none, isNone_bool, isNone_int, isNone_str, isNone_list, isNone_tuple, evMeth, fNeg, evLc, calmB, lks, Arg.lk, lock1, wipeE, bindT, restE, keepSh, uns, Arg.un, unlk1, tvYes, k8, nS], .inl e, f2', nS i, hz, rfl, rfl⟩
  subst e
  have e2 : evOs [.ex (evC (.int 4))] (W9 (.list (ns.map .int)) k f' y3 y4 y5 y6 y7 x8) = .ok [.sh (.int 4)] (W9 (.list (ns.map .int)) k f' y3 y4 y5 y6 y7 x8) := rfl
  have g3 := evFor_next (ρ3 := W9 (.list (ns.map .int)) k f2' y3 y4 y5 y6 y7 y8) e2 rfl (it1 (n := 4) (by omega)) a1 rfl
  unfold b_law_5
  rw [sSeq_next g1, sSeq_next g2, g3]
  exact ⟨some (.ow f2'), y3, y4, y5, y6, y7, y8, rfl, k3, k4, k5, k6, k7, k8, rfl⟩
theorem law_true (ns : List Int) (hl : ns.length ≤ 63) (hb : ∀ z ∈ ns, Builtin.Int.intBits z ≤ 1048576) : ∃ r, F_law [.sh (.list (ns.map .int))] = .ret (.sh (.bool true)) r := by
  obtain ⟨ρ', a1, x1, y2, y3, y4, y5, y6, y7, y8, k1, k2, k3, k4, k5, k6, k7, k8, e⟩ := forGo_all (t := .nm 1) (body := b_law_5) (fun i : Nat => .int (i : Int)) (fun i ρ => ∃ x1 y2 y3 y4 y5 y6 y7 y8, Sl.free x1 = true ∧ Sl.free y2 = true ∧ Sl.free y3 = true ∧ Sl.free y4 = true ∧ Sl.free y5 = true ∧ Sl.free y6 = true ∧ Sl.free y7 = true ∧ Sl.free y8 = true ∧ ρ = [some (.sh (.list (ns.map .int))), x1, y2, y3, y4, y5, y6, y7, y8]) (List.range 2)
    [some (.sh (.list (ns.map .int))), none, none, none, none, none, none, none, none] ⟨none, none, none, none, none, none, none, none, rfl, rfl, rfl, rfl, rfl, rfl, rfl, rfl, rfl⟩ fun i a ρ hi ⟨x1, y2, y3, y4, y5, y6, y7, y8, k1, k2, k3, k4, k5, k6, k7, k8, e⟩ => by
      subst e
      obtain ⟨hlt, ha⟩ := List.getElem?_eq_some_iff.mp hi
      simp at ha hlt
      subst ha
      obtain ⟨z2, z3, z4, z5, z6, z7, z8, m2, m3, m4, m5, m6, m7, m8, e⟩ := round_eq ns hb i (by omega) y2 y3 y4 y5 y6 y7 y8 k2 k3 k4 k5 k6 k7 k8
      exact ⟨[some (.sh (.list (ns.map .int))), nS i, y2, y3, y4, y5, y6, y7, y8], _, by simp [lineN_eq, n64_eq, cdec_iff, mkF, trimO, trimE, keepIo_none, keepIo_sh, keepIo_ow, keepIo_io, keepIo_lk, keepIo_ex, entry, sSeq, sNil, sRet, sIf, sEx, sAsg, sSet, sRaise, sPar, evRs, bindRs, bindR, evC, evVar, evMv, evPm, evOs, evO, looks, look, pm1, pm2, evAnd, evOr, evNot, evIf, boolR, tvOf, tvAnd, tvOr, tvNot, truthD, Res.d, Sl.d, putR, free_none, free_sh, free_ow, free_ex, free_io, free_lk, Res.sl, pLen, pList, pTuple, pInt, pMax2, pMin2, pTup, pLst, pIsi, pIsiT, tyD, isTy, evCall, argSls, argSl, apart, clash, backA, Sl.wr, Sl.to, evMut, fEqX_int, fNeX_int, fEqX_str, fNeX_str, fIx, fCmp, fAdd, fInt, fIntC, mSet, powB, isL, evIntK, evCh, evInt, fIs, fIsN, isNone_none, isNone_bool, isNone_int, isNone_str, isNone_list, isNone_tuple, evMeth, fNeg, evLc, calmB, lks, Arg.lk, lock1, wipeE, bindT, restE, keepSh, uns, Arg.un, unlk1, tvYes, k1, nS], .inl e, nS i, z2, z3, z4, z5, z6, z7, z8, rfl, m2, m3, m4, m5, m6, m7, m8, rfl⟩
  subst e
  have e2 : evOs [.ex (evC (.int 2))] [some (.sh (.list (ns.map .int))), none, none, none, none, none, none, none, none] = .ok [.sh (.int 2)] [some (.sh (.list (ns.map .int))), none, none, none, none, none, none, none, none] := rfl
  have g := evFor_next (ρ3 := [some (.sh (.list (ns.map .int))), x1, y2, y3, y4, y5, y6, y7, y8]) e2 rfl (it1 (n := 2) (by omega)) a1 rfl
  refine ⟨trimE [some (.sh (.list (ns.map .int))), x1, y2, y3, y4, y5, y6, y7, y8], ?_⟩
  · unfold F_law mkF ev_law
    show trimO (sSeq _ _ [some (.sh (.list (ns.map .int))), none, none, none, none, none, none, none, none]) = _
    rw [sSeq_next g]
    rfl
end
end L57
set_option Elab.async false
set_option linter.all false
set_option autoImplicit false
set_option maxRecDepth 100000
set_option maxHeartbeats 0
/-! the walks of law_k57_bars_of_all_orders (printed by pr2.py) -/
namespace L57
open PySem PySem.Spec L2 Ev
open PyProof.Rows hiding St
def top (i : Nat) : Stmt := PySem.Challenge.pw_pairedtongues_k57_bars_of_all_orders.main.body.getD i (.Pass ⟨0, 0, 0, 0⟩)
def d0 : He.DefD := ⟨("is_integer", none), "is_integer", "is_integer", defArgs (top 4), defBody (top 4), defScope (top 4), [], []⟩
def d1 : He.DefD := ⟨("is_order", none), "is_order", "is_order", defArgs (top 8), defBody (top 8), defScope (top 8), [], []⟩
def d2 : He.DefD := ⟨("need_order", none), "need_order", "need_order", defArgs (top 9), defBody (top 9), defScope (top 9), [], []⟩
def d3 : He.DefD := ⟨("word_between", none), "word_between", "word_between", defArgs (top 10), defBody (top 10), defScope (top 10), [], []⟩
def d4 : He.DefD := ⟨("tree_between", none), "tree_between", "tree_between", defArgs (top 11), defBody (top 11), defScope (top 11), [], []⟩
def d5 : He.DefD := ⟨("tree_of", none), "tree_of", "tree_of", defArgs (top 12), defBody (top 12), defScope (top 12), [], []⟩
def d6 : He.DefD := ⟨("stands_so", none), "stands_so", "stands_so", defArgs (top 13), defBody (top 13), defScope (top 13), [], []⟩
def d7 : He.DefD := ⟨("bar", none), "bar", "bar", defArgs (top 14), defBody (top 14), defScope (top 14), [], []⟩
def d8 : He.DefD := ⟨("split_tree", none), "split_tree", "split_tree", defArgs (top 16), defBody (top 16), defScope (top 16), [], []⟩
def d9 : He.DefD := ⟨("bar_of", none), "bar_of", "bar_of", defArgs (top 17), defBody (top 17), defScope (top 17), [], []⟩
def d10 : He.DefD := ⟨("_law_feed", none), "_law_feed", "_law_feed", defArgs (top 19), defBody (top 19), defScope (top 19), [], []⟩
def d11 : He.DefD := ⟨("_law_draw", none), "_law_draw", "_law_draw", defArgs (top 20), defBody (top 20), defScope (top 20), [], []⟩
def d12 : He.DefD := ⟨("_law_one", none), "_law_one", "_law_one", defArgs (top 21), defBody (top 21), defScope (top 21), [], []⟩
def d13 : He.DefD := ⟨("_law_numbered", none), "_law_numbered", "_law_numbered", defArgs (top 22), defBody (top 22), defScope (top 22), [], []⟩
def d14 : He.DefD := ⟨("_law_stands", none), "_law_stands", "_law_stands", defArgs (top 23), defBody (top 23), defScope (top 23), [], []⟩
def d15 : He.DefD := ⟨("_law_bar", none), "_law_bar", "_law_bar", defArgs (top 24), defBody (top 24), defScope (top 24), [], []⟩
def d16 : He.DefD := ⟨("_law_is_right", none), "_law_is_right", "_law_is_right", defArgs (top 25), defBody (top 25), defScope (top 25), [], []⟩
def d17 : He.DefD := ⟨("law", none), "law", "law", defArgs (top 26), defBody (top 26), defScope (top 26), [], []⟩
def fn : List He.DefD := [d0, d1, d2, d3, d4, d5, d6, d7, d8, d9, d10, d11, d12, d13, d14, d15, d16, d17]
def exB (K : PySem.W.Frag) : Bool := tblB tblL K && consB conL K
def fa : List He.Fa := [.free "all", .free "any", .free "bool", .free "int", .free "isinstance", .free "len", .free "list", .free "max", .free "min", .free "range", .free "repr", .free "sorted", .free "sum", .free "tuple", .glo "is_integer", .glo "is_order", .glo "need_order", .glo "word_between", .glo "tree_between", .glo "tree_of", .glo "stands_so", .glo "bar", .glo "split_tree", .glo "bar_of", .glo "_law_feed", .glo "_law_draw", .glo "_law_one", .glo "_law_numbered", .glo "_law_stands", .glo "_law_bar", .glo "_law_is_right", .glo "law", .glo "BadOrder", .exc "BadOrder"]
structure Gk (K : PySem.W.Frag) (mg : Str → Option Value) : Prop where
  b_all : mg ("all" : Str) = none
  b_any : mg ("any" : Str) = none
  b_bool : mg ("bool" : Str) = none
  b_int : mg ("int" : Str) = none
  b_isinstance : mg ("isinstance" : Str) = none
  b_len : mg ("len" : Str) = none
  b_list : mg ("list" : Str) = none
  b_max : mg ("max" : Str) = none
  b_min : mg ("min" : Str) = none
  b_range : mg ("range" : Str) = none
  b_repr : mg ("repr" : Str) = none
  b_sorted : mg ("sorted" : Str) = none
  b_sum : mg ("sum" : Str) = none
  b_tuple : mg ("tuple" : Str) = none
  g_is_integer : mg ("is_integer" : Str) = some (.ref (He.ga K "is_integer"))
  g_is_order : mg ("is_order" : Str) = some (.ref (He.ga K "is_order"))
  g_need_order : mg ("need_order" : Str) = some (.ref (He.ga K "need_order"))
  g_word_between : mg ("word_between" : Str) = some (.ref (He.ga K "word_between"))
  g_tree_between : mg ("tree_between" : Str) = some (.ref (He.ga K "tree_between"))
  g_tree_of : mg ("tree_of" : Str) = some (.ref (He.ga K "tree_of"))
  g_stands_so : mg ("stands_so" : Str) = some (.ref (He.ga K "stands_so"))
  g_bar : mg ("bar" : Str) = some (.ref (He.ga K "bar"))
  g_split_tree : mg ("split_tree" : Str) = some (.ref (He.ga K "split_tree"))
  g_bar_of : mg ("bar_of" : Str) = some (.ref (He.ga K "bar_of"))
  g__law_feed : mg ("_law_feed" : Str) = some (.ref (He.ga K "_law_feed"))
  g__law_draw : mg ("_law_draw" : Str) = some (.ref (He.ga K "_law_draw"))
  g__law_one : mg ("_law_one" : Str) = some (.ref (He.ga K "_law_one"))
  g__law_numbered : mg ("_law_numbered" : Str) = some (.ref (He.ga K "_law_numbered"))
  g__law_stands : mg ("_law_stands" : Str) = some (.ref (He.ga K "_law_stands"))
  g__law_bar : mg ("_law_bar" : Str) = some (.ref (He.ga K "_law_bar"))
  g__law_is_right : mg ("_law_is_right" : Str) = some (.ref (He.ga K "_law_is_right"))
  g_law : mg ("law" : Str) = some (.ref (He.ga K "law"))
  c_BadOrder : mg ("BadOrder" : Str) = some (.ref (He.ga K "BadOrder"))
  x_BadOrder : (He.Fa.exc "BadOrder").ok K = true
  k_MOST_PLACES : Con K mg "MOST_PLACES" c_MOST_PLACES
  k_BARS : Con K mg "BARS" c_BARS
  xf : XF K tbl
theorem gk {K : PySem.W.Frag} {h : Heap} {mg : Str → Option Value} (X : K.In h) (Gm : h.Ns mainGlobals mg) (c : He.SaysD fa fn K) (x : exB K = true) : Gk K mg := ⟨He.free_ok X Gm (c.fact 0 (f := .free "all") rfl), He.free_ok X Gm (c.fact 1 (f := .free "any") rfl), He.free_ok X Gm (c.fact 2 (f := .free "bool") rfl), He.free_ok X Gm (c.fact 3 (f := .free "int") rfl), He.free_ok X Gm (c.fact 4 (f := .free "isinstance") rfl), He.free_ok X Gm (c.fact 5 (f := .free "len") rfl), He.free_ok X Gm (c.fact 6 (f := .free "list") rfl), He.free_ok X Gm (c.fact 7 (f := .free "max") rfl), He.free_ok X Gm (c.fact 8 (f := .free "min") rfl), He.free_ok X Gm (c.fact 9 (f := .free "range") rfl), He.free_ok X Gm (c.fact 10 (f := .free "repr") rfl), He.free_ok X Gm (c.fact 11 (f := .free "sorted") rfl), He.free_ok X Gm (c.fact 12 (f := .free "sum") rfl), He.free_ok X Gm (c.fact 13 (f := .free "tuple") rfl), He.glo_ok X Gm (c.fact 14 (f := .glo "is_integer") rfl), He.glo_ok X Gm (c.fact 15 (f := .glo "is_order") rfl), He.glo_ok X Gm (c.fact 16 (f := .glo "need_order") rfl), He.glo_ok X Gm (c.fact 17 (f := .glo "word_between") rfl), He.glo_ok X Gm (c.fact 18 (f := .glo "tree_between") rfl), He.glo_ok X Gm (c.fact 19 (f := .glo "tree_of") rfl), He.glo_ok X Gm (c.fact 20 (f := .glo "stands_so") rfl), He.glo_ok X Gm (c.fact 21 (f := .glo "bar") rfl), He.glo_ok X Gm (c.fact 22 (f := .glo "split_tree") rfl), He.glo_ok X Gm (c.fact 23 (f := .glo "bar_of") rfl), He.glo_ok X Gm (c.fact 24 (f := .glo "_law_feed") rfl), He.glo_ok X Gm (c.fact 25 (f := .glo "_law_draw") rfl), He.glo_ok X Gm (c.fact 26 (f := .glo "_law_one") rfl), He.glo_ok X Gm (c.fact 27 (f := .glo "_law_numbered") rfl), He.glo_ok X Gm (c.fact 28 (f := .glo "_law_stands") rfl), He.glo_ok X Gm (c.fact 29 (f := .glo "_law_bar") rfl), He.glo_ok X Gm (c.fact 30 (f := .glo "_law_is_right") rfl), He.glo_ok X Gm (c.fact 31 (f := .glo "law") rfl), He.glo_ok X Gm (c.fact 32 (f := .glo "BadOrder") rfl), c.fact 33 (f := .exc "BadOrder") rfl, consB_ok (Bool.and_eq_true_iff.mp x).2 X Gm 0 (q := ("MOST_PLACES", c_MOST_PLACES)) rfl, consB_ok (Bool.and_eq_true_iff.mp x).2 X Gm 1 (q := ("BARS", c_BARS)) rfl, tblB_ok (Bool.and_eq_true_iff.mp x).1⟩
theorem HU {k : Nat} {A : Around} (r : RoomG k A) : A.units + 64 < cLine := r.units
theorem HV {k : Nat} {A : Around} (r : RoomG k A) : A.units + 65 < cLine := Nat.lt_of_le_of_lt (by omega) r.units2
theorem HW {k : Nat} {A : Around} (r : RoomG k A) : A.units + 67 < cLine := Nat.lt_of_le_of_lt (by omega) r.units2
section
variable {P : Program} {w : World} {K : PySem.W.Frag} {mg : Str → Option Value} {base : Heap}
def N_is_integer : List Str := ["thing"]
theorem sc_is_integer : FnScope N_is_integer ["thing"] (defScope (top 4)) := ⟨rfl, rfl, rfl, by decide +kernel, rfl, by decide +kernel, by decide +kernel⟩
theorem kn_is_integer (G : Gk K mg) (c : He.SaysD fa fn K) : Kn P w K mg base 1 "is_integer" ["thing"] 0 F_is_integer := by
  obtain ⟨fd, Fd⟩ := c.def_ 0 (d := d0) rfl
  exact kn_of (lv := 0) (N := N_is_integer) (fb := ev_is_integer) Fd G.g_is_integer sc_is_integer (fun _ _ _ _ _ _ us hl => match us, hl with | [_], _ => rfl) (fun _ _ _ _ _ _ us ws hl => match us, ws, hl with | [], [_], _ => rfl | [_], [], _ => rfl)
    fun cdv A outer s H E hr => (s_one (s_ret (pe_a (pe_isi (T := "int") (by decide) (pe_at (pv 0)) rfl G.b_isinstance rfl G.b_int boot_int) (pe_b1 (pe_n (pe_isi (T := "bool") (by decide) (pe_at (pv 0)) rfl G.b_isinstance rfl G.b_bool boot_bool))))))
def N_word_between : List Str := ["order", "begin", "middle", "end", "first", "second"]
theorem sc_word_between : FnScope N_word_between ["order", "begin", "middle", "end"] (defScope (top 10)) := ⟨rfl, rfl, rfl, by decide +kernel, rfl, by decide +kernel, by decide +kernel⟩
theorem kn_word_between (G : Gk K mg) (c : He.SaysD fa fn K) : Kn P w K mg base 1 "word_between" ["order", "begin", "middle", "end"] 2 F_word_between := by
  obtain ⟨fd, Fd⟩ := c.def_ 3 (d := d3) rfl
  exact kn_of (lv := 0) (N := N_word_between) (fb := ev_word_between) Fd G.g_word_between sc_word_between (fun _ _ _ _ _ _ us hl => match us, hl with | [_, _, _, _], _ => rfl) (fun _ _ _ _ _ _ us ws hl => match us, ws, hl with | [], [_, _, _, _], _ => rfl | [_], [_, _, _], _ => rfl | [_, _], [_, _], _ => rfl | [_, _, _], [_], _ => rfl | [_, _, _, _], [], _ => rfl)
    fun cdv A outer s H E hr => (s_cons (s_asg (i := 4) sc_word_between.nd rfl (by first | exact Or.inl rfl | exact Or.inr rfl) (pe_sl11 (pe_at (pv 0)) (pe_nm (pv 1)) (pe_at (pv 2))))
 (s_cons (s_asg (i := 5) sc_word_between.nd rfl (by first | exact Or.inl rfl | exact Or.inr rfl) (pe_sl11 (pe_at (pv 0)) (pe_nm (pv 2)) (pe_at (pv 3))))
 (s_cons (s_if (pt_cm op_lt ok_cmp (pe_ex (pe_cb (cr_maxD rfl (HV hr)) ok_best rfl G.b_max boot_max (pa_s (pe_at (pv 4)) pa_s0))) (pe_ex (pe_cb (cr_minD rfl (HV hr)) ok_best rfl G.b_min boot_min (pa_s (pe_at (pv 5)) pa_s0))) (nomark _) fCmp_bool) (s_one (s_ret pe_cStr)) s_nil)
 (s_one (s_ret (pe_if (pt_cm op_gt ok_cmp (pe_ex (pe_cb (cr_minD rfl (HV hr)) ok_best rfl G.b_min boot_min (pa_s (pe_at (pv 4)) pa_s0))) (pe_ex (pe_cb (cr_maxD rfl (HV hr)) ok_best rfl G.b_max boot_max (pa_s (pe_at (pv 5)) pa_s0))) (nomark _) fCmp_bool) pe_cStr pe_cNon))))))
def N_stands_so : List Str := ["numbers", "wanted", "places", "number"]
theorem sc_stands_so : FnScope N_stands_so ["numbers", "wanted"] (defScope (top 13)) := ⟨rfl, rfl, rfl, by decide +kernel, rfl, by decide +kernel, by decide +kernel⟩
theorem kn_stands_so (G : Gk K mg) (c : He.SaysD fa fn K) : Kn P w K mg base 1 "stands_so" ["numbers", "wanted"] 2 F_stands_so := by
  obtain ⟨fd, Fd⟩ := c.def_ 6 (d := d6) rfl
  exact kn_of (lv := 0) (N := N_stands_so) (fb := ev_stands_so) Fd G.g_stands_so sc_stands_so (fun _ _ _ _ _ _ us hl => match us, hl with | [_, _], _ => rfl) (fun _ _ _ _ _ _ us ws hl => match us, ws, hl with | [], [_, _], _ => rfl | [_], [_], _ => rfl | [_, _], [], _ => rfl)
    fun cdv A outer s H E hr => (s_cons (s_asg (i := 2) sc_stands_so.nd rfl (by first | exact Or.inl rfl | exact Or.inr rfl) (pe_cb (cr_sortX (HW hr)) ok_sorted rfl G.b_sorted boot_sorted (pa_s (pe_at (pv 0)) pa_s0)))
 (s_one (s_ret (pe_cm (op_eqX (HU hr)) ok_eqX (pe_ex (pe_ct call_tuple_of ok_tuple rfl G.b_tuple boot_tuple (pa_s (pe_ex (pe_lcE (blk := [("number", 3)]) rfl sc_stands_so.nd (src_seq (pe_at (pv 0))) ⟨blkOk_by (by kernel_rfl), fun _ _ _ _ _ => (g_nm (i := 3) sc_stands_so.nd rfl (by first | exact Or.inl rfl | exact Or.inr rfl)), fun _ _ _ _ _ => pts_0, fun _ _ _ _ _ => (pe_index (HV hr) (pe_at (pv 2)) (pa_s (pe_at (pv 3)) pa_s0)), by decide⟩)) pa_s0))) (pe_at (pv 1)) (nomark _)))))
def N__law_feed : List Str := ["_law_script", "_law_k", "_law_cell"]
theorem sc__law_feed : FnScope N__law_feed ["_law_script", "_law_k"] (defScope (top 19)) := ⟨rfl, rfl, rfl, by decide +kernel, rfl, by decide +kernel, by decide +kernel⟩
theorem kn__law_feed (G : Gk K mg) (c : He.SaysD fa fn K) : Kn P w K mg base 1 "_law_feed" ["_law_script", "_law_k"] 1 F__law_feed := by
  obtain ⟨fd, Fd⟩ := c.def_ 10 (d := d10) rfl
  exact kn_of (lv := 0) (N := N__law_feed) (fb := ev__law_feed) Fd G.g__law_feed sc__law_feed (fun _ _ _ _ _ _ us hl => match us, hl with | [_, _], _ => rfl) (fun _ _ _ _ _ _ us ws hl => match us, ws, hl with | [], [_, _], _ => rfl | [_], [_], _ => rfl | [_, _], [], _ => rfl)
    fun cdv A outer s H E hr => (s_cons (s_asg (i := 2) sc__law_feed.nd rfl (by first | exact Or.inl rfl | exact Or.inr rfl) (pe_add' (pe_ex (pe_mul' (pe_ex pe_cInt) (pe_at (pv 1)))) (pe_ex (pe_cb (cr_sum rfl) ok_sum rfl G.b_sum boot_sum (pa_s (pe_ex (pe_sl01 (pe_at (pv 0)) (pe_ex pe_cInt))) pa_s0)))))
 (s_cons (s_if (pt_cm op_lt ok_cmp (pe_at (pv 1)) (pe_ex (pe_cb call_len ok_len rfl G.b_len boot_len (pa_s (pe_at (pv 0)) pa_s0))) (nomark _) fCmp_bool) (s_one (s_asg (i := 2) sc__law_feed.nd rfl (by first | exact Or.inl rfl | exact Or.inr rfl) (pe_sub1 (pe_at (pv 0)) (pe_at (pv 1))))) s_nil)
 (s_one (s_ret (pe_lstD (fs := [evPm pMax2 [.ex (evC (.int 0)), .ex (evPm (pm2 fSub) [.pl 2, .ex (evPm (pm2 fPow) [.ex (evC (.int 10)), .ex (evC (.int 18))])])], evPm (pm2 fMod) [.ex (evPm pInt [.ex (evPm (pm2 fAdd) [.ex (evPm (pm2 fMul) [.pl 2, .ex (evC (.int 19))]), .ex (evPm (pm2 fMul) [.ex (evC (.int 7)), .pl 1])])]), .ex (evPm (pm2 fAdd) [.ex (evPm (pm2 fPow) [.ex (evC (.int 10)), .ex (evC (.int 39))]), .ex (evC (.int 23))])], evC (.int 0)]) (pa_s (pe_ex (pe_cb (call_max2 rfl) ok_max2 rfl G.b_max boot_max (pa_s (pe_ex pe_cInt) (pa_s (pe_ex (pe_sub' (pe_at (pv 2)) (pe_ex (pe_pow' (pe_ex pe_cInt) (pe_ex pe_cInt))))) pa_s0)))) (pa_s (pe_ex (pe_mod' (pe_ex (pe_ct call_int1 ok_int rfl G.b_int boot_int (pa_s (pe_ex (pe_add' (pe_ex (pe_mul' (pe_at (pv 2)) (pe_ex pe_cInt))) (pe_ex (pe_mul' (pe_ex pe_cInt) (pe_at (pv 1)))))) pa_s0))) (pe_ex (pe_add' (pe_ex (pe_pow' (pe_ex pe_cInt) (pe_ex pe_cInt))) (pe_ex pe_cInt))))) (pa_s (pe_ex pe_cInt) pa_s0))))))))
def N__law_draw : List Str := ["_law_feed_here", "_law_many", "_law_rest", "_law_got", "_law_stir"]
theorem sc__law_draw : FnScope N__law_draw ["_law_feed_here", "_law_many"] (defScope (top 20)) := ⟨rfl, rfl, rfl, by decide +kernel, rfl, by decide +kernel, by decide +kernel⟩
theorem kn__law_draw (G : Gk K mg) (c : He.SaysD fa fn K) : Kn P w K mg base 1 "_law_draw" ["_law_feed_here", "_law_many"] 3 F__law_draw := by
  obtain ⟨fd, Fd⟩ := c.def_ 11 (d := d11) rfl
  exact kn_of (lv := 0) (N := N__law_draw) (fb := ev__law_draw) Fd G.g__law_draw sc__law_draw (fun _ _ _ _ _ _ us hl => match us, hl with | [_, _], _ => rfl) (fun _ _ _ _ _ _ us ws hl => match us, ws, hl with | [], [_, _], _ => rfl | [_], [_], _ => rfl | [_, _], [], _ => rfl)
    fun cdv A outer s H E hr => (s_cons (s_if (pt_cm op_gt ok_cmp (pe_ex (pe_sub1 (pe_at (pv 0)) (pe_ex pe_cInt))) (pe_ex pe_cInt) (nomark _) fCmp_bool) (s_cons (s_asg (i := 2) sc__law_draw.nd rfl (by first | exact Or.inl rfl | exact Or.inr rfl) (pe_div' (pe_ex (pe_sub1 (pe_at (pv 0)) (pe_ex pe_cInt))) (pe_at (pv 1))))
 (s_cons (s_asg (i := 3) sc__law_draw.nd rfl (by first | exact Or.inl rfl | exact Or.inr rfl) (pe_sub' (pe_ex (pe_sub1 (pe_at (pv 0)) (pe_ex pe_cInt))) (pe_ex (pe_mul' (pe_at (pv 2)) (pe_at (pv 1))))))
 (s_cons (s_set (pv 0) (pe_nm (pv 2)) pe_cInt)
 (s_one (s_ret (pe_mv (pv 3))))))) s_nil)
 (s_cons (s_set (pv 0) (pe_add' (pe_ex (pe_sub1 (pe_at (pv 0)) (pe_ex pe_cInt))) (pe_ex pe_cInt)) pe_cInt)
 (s_cons (s_asg (i := 4) sc__law_draw.nd rfl (by first | exact Or.inl rfl | exact Or.inr rfl) (pe_add' (pe_ex (pe_sub1 (pe_at (pv 0)) (pe_ex pe_cInt))) (pe_ex (pe_mul' (pe_ex pe_cInt) (pe_ex (pe_sub1 (pe_at (pv 0)) (pe_ex pe_cInt)))))))
 (s_cons (s_asg (i := 4) sc__law_draw.nd rfl (by first | exact Or.inl rfl | exact Or.inr rfl) (pe_mod' (pe_ex (pe_ct call_int1 ok_int rfl G.b_int boot_int (pa_s (pe_ex (pe_add' (pe_ex (pe_mul' (pe_ex (pe_mul' (pe_at (pv 4)) (pe_at (pv 4)))) (pe_at (pv 4)))) (pe_ex (pe_mul' (pe_ex pe_cInt) (pe_ex (pe_sub1 (pe_at (pv 0)) (pe_ex pe_cInt))))))) pa_s0))) (pe_ex (pe_add' (pe_ex (pe_pow' (pe_ex pe_cInt) (pe_ex pe_cInt))) (pe_ex pe_cInt)))))
 (s_cons (s_asg (i := 4) sc__law_draw.nd rfl (by first | exact Or.inl rfl | exact Or.inr rfl) (pe_mod' (pe_ex (pe_ct call_int1 ok_int rfl G.b_int boot_int (pa_s (pe_ex (pe_add' (pe_ex (pe_mul' (pe_at (pv 4)) (pe_at (pv 4)))) (pe_ex pe_cInt))) pa_s0))) (pe_ex (pe_add' (pe_ex (pe_pow' (pe_ex pe_cInt) (pe_ex pe_cInt))) (pe_ex pe_cInt)))))
 (s_one (s_ret (pe_mod' (pe_ex (pe_ct call_int1 ok_int rfl G.b_int boot_int (pa_s (pe_ex (pe_div' (pe_at (pv 4)) (pe_ex (pe_pow' (pe_ex pe_cInt) (pe_ex pe_cInt))))) pa_s0))) (pe_at (pv 1))))))))))
def N__law_numbered : List Str := ["_law_many", "_law_number", "_law_pool", "_law_got", "_law_left", "_law_share", "_law_factor", "_law_at"]
theorem sc__law_numbered : FnScope N__law_numbered ["_law_many", "_law_number"] (defScope (top 22)) := ⟨rfl, rfl, rfl, by decide +kernel, rfl, by decide +kernel, by decide +kernel⟩
theorem kn__law_numbered (G : Gk K mg) (c : He.SaysD fa fn K) : Kn P w K mg base 1 "_law_numbered" ["_law_many", "_law_number"] 6 F__law_numbered := by
  obtain ⟨fd, Fd⟩ := c.def_ 13 (d := d13) rfl
  exact kn_of (lv := 0) (N := N__law_numbered) (fb := ev__law_numbered) Fd G.g__law_numbered sc__law_numbered (fun _ _ _ _ _ _ us hl => match us, hl with | [_, _], _ => rfl) (fun _ _ _ _ _ _ us ws hl => match us, ws, hl with | [], [_, _], _ => rfl | [_], [_], _ => rfl | [_, _], [], _ => rfl)
    fun cdv A outer s H E hr => (s_cons (by first | exact s_par2 (i := 2) (j := 3) rfl sc__law_numbered.nd rfl rfl (by decide) rfl rfl (pa_r (pe_lrg1 rfl rfl G.b_list rfl G.b_range (pe_at (pv 0))) (pa_r (pe_lstD (fs := []) pa_s0) pa_r0)) rfl | exact s_parG rfl (pa_r (pe_lrg1 rfl rfl G.b_list rfl G.b_range (pe_at (pv 0))) (pa_r (pe_lstD (fs := []) pa_s0) pa_r0)) (r_cons (gr_nm (i := 2) sc__law_numbered.nd rfl (by first | exact Or.inl rfl | exact Or.inr rfl)) (r_cons (gr_nm (i := 3) sc__law_numbered.nd rfl (by first | exact Or.inl rfl | exact Or.inr rfl)) r_nil)))
 (s_cons (s_for passes_fn rfl (src_r3 rfl G.b_range (pa_s (pe_at (pv 0)) (pa_s (pe_ex pe_cInt) (pa_s (pe_ex (pe_neg (pe_ex pe_cInt))) pa_s0)))) (g_nm (i := 4) sc__law_numbered.nd rfl (by first | exact Or.inl rfl | exact Or.inr rfl)) (s_cons (s_asg (i := 5) sc__law_numbered.nd rfl (by first | exact Or.inl rfl | exact Or.inr rfl) pe_cInt)
 (s_cons (s_for passes_fn rfl (src_r2 rfl G.b_range (pa_s (pe_ex pe_cInt) (pa_s (pe_at (pv 4)) pa_s0))) (g_nm (i := 6) sc__law_numbered.nd rfl (by first | exact Or.inl rfl | exact Or.inr rfl)) (s_one (s_asg (i := 5) sc__law_numbered.nd rfl (by first | exact Or.inl rfl | exact Or.inr rfl) (pe_mul' (pe_at (pv 5)) (pe_at (pv 6))))))
 (s_cons (s_asg (i := 7) sc__law_numbered.nd rfl (by first | exact Or.inl rfl | exact Or.inr rfl) (pe_div' (pe_at (pv 1)) (pe_at (pv 5))))
 (s_cons (s_asg (i := 1) sc__law_numbered.nd rfl (by first | exact Or.inl rfl | exact Or.inr rfl) (pe_sub' (pe_at (pv 1)) (pe_ex (pe_mul' (pe_at (pv 7)) (pe_at (pv 5))))))
 (s_one (s_expr (pe_append (pv 3) (pe_popAt (pv 2) (pe_nm (pv 7)))))))))))
 (s_one (s_ret (pe_ct call_tuple_of ok_tuple rfl G.b_tuple boot_tuple (pa_s (pe_at (pv 3)) pa_s0))))))
def N__law_stands : List Str := ["_law_numbers", "_law_other", "_law_number"]
theorem sc__law_stands : FnScope N__law_stands ["_law_numbers"] (defScope (top 23)) := ⟨rfl, rfl, rfl, by decide +kernel, rfl, by decide +kernel, by decide +kernel⟩
theorem kn__law_stands (G : Gk K mg) (c : He.SaysD fa fn K) : Kn P w K mg base 1 "_law_stands" ["_law_numbers"] 2 F__law_stands := by
  obtain ⟨fd, Fd⟩ := c.def_ 14 (d := d14) rfl
  exact kn_of (lv := 0) (N := N__law_stands) (fb := ev__law_stands) Fd G.g__law_stands sc__law_stands (fun _ _ _ _ _ _ us hl => match us, hl with | [_], _ => rfl) (fun _ _ _ _ _ _ us ws hl => match us, ws, hl with | [], [_], _ => rfl | [_], [], _ => rfl)
    fun cdv A outer s H E hr => (s_one (s_ret (pe_lcE (blk := [("_law_number", 2)]) rfl sc__law_stands.nd (src_seq (pe_at (pv 0))) ⟨blkOk_by (by kernel_rfl), fun _ _ _ _ _ => (g_nm (i := 2) sc__law_stands.nd rfl (by first | exact Or.inl rfl | exact Or.inr rfl)), fun _ _ _ _ _ => pts_0, fun _ _ _ _ _ => (pe_cb call_len ok_len rfl G.b_len boot_len (pa_s (pe_ex (pe_lcE (blk := [("_law_other", 1)]) rfl sc__law_stands.nd (src_seq (pe_at (pv 0))) ⟨blkOk_by (by kernel_rfl), fun _ _ _ _ _ => (g_nm (i := 1) sc__law_stands.nd rfl (by first | exact Or.inl rfl | exact Or.inr rfl)), fun _ _ _ _ _ => (pts_1 (pt_cm op_lt ok_cmp (pe_at (pv 1)) (pe_at (pv 2)) (nomark _) fCmp_bool)), fun _ _ _ _ _ => (pe_nm (pv 1)), by decide⟩)) pa_s0)), by decide⟩)))
def N_is_order : List Str := ["thing", "number"]
theorem sc_is_order : FnScope N_is_order ["thing"] (defScope (top 8)) := ⟨rfl, rfl, rfl, by decide +kernel, rfl, by decide +kernel, by decide +kernel⟩
theorem kn_is_order (G : Gk K mg) (c : He.SaysD fa fn K) : Kn P w K mg base 2 "is_order" ["thing"] 1 F_is_order := by
  obtain ⟨fd, Fd⟩ := c.def_ 1 (d := d1) rfl
  have KN_is_integer := kn_is_integer (P := P) (w := w) (base := base) G c
  exact kn_of (lv := 1) (N := N_is_order) (fb := ev_is_order) Fd G.g_is_order sc_is_order (fun _ _ _ _ _ _ us hl => match us, hl with | [_], _ => rfl) (fun _ _ _ _ _ _ us ws hl => match us, ws, hl with | [], [_], _ => rfl | [_], [], _ => rfl)
    fun cdv A outer s H E hr => (s_cons (s_if (PW.pt (pw_o (pt_n (pt_ev (pe_isi (T := "tuple") (by decide) (pe_at (pv 0)) rfl G.b_isinstance rfl G.b_tuple boot_tuple))) (pw_o1 (pt_n (pt_chI op_le op_le pe_cInt (pe_cb call_len ok_len rfl G.b_len boot_len (pa_s (pe_at (pv 0)) pa_s0)) (pe_con G.k_MOST_PLACES rfl)))))) (s_one (s_ret pe_cBl)) s_nil)
 (s_one (s_ret (pe_a (pe_cb (cr_all rfl) ok_all rfl G.b_all boot_all (pa_s (pe_ex (pe_lcE (blk := [("number", 1)]) rfl sc_is_order.nd (src_seq (pe_at (pv 0))) ⟨blkOk_by (by kernel_rfl), fun _ _ _ _ _ => (g_nm (i := 1) sc_is_order.nd rfl (by first | exact Or.inl rfl | exact Or.inr rfl)), fun _ _ _ _ _ => pts_0, fun _ _ _ _ _ => (pe_fn (KN_is_integer.mono (by decide)) hr rfl takes0 (pa_s (pe_at (pv 1)) pa_s0)), by decide⟩)) pa_s0)) (pe_b1 (pe_cm (op_eqX (HU hr)) ok_eqX (pe_ex (pe_cb (cr_sortX (HW hr)) ok_sorted rfl G.b_sorted boot_sorted (pa_s (pe_ex (pe_ct call_list_of ok_list rfl G.b_list boot_list (pa_s (pe_at (pv 0)) pa_s0))) pa_s0))) (pe_ex (pe_lrg1 rfl rfl G.b_list rfl G.b_range (pe_ex (pe_cb call_len ok_len rfl G.b_len boot_len (pa_s (pe_at (pv 0)) pa_s0))))) (nomark _)))))))
def N_bar : List Str := ["order", "many", "one", "two", "third", "last", "places", "numbers", "place", "told"]
theorem sc_bar : FnScope N_bar ["order"] (defScope (top 14)) := ⟨rfl, rfl, rfl, by decide +kernel, rfl, by decide +kernel, by decide +kernel⟩
theorem kn_bar (G : Gk K mg) (c : He.SaysD fa fn K) : Kn P w K mg base 2 "bar" ["order"] 9 F_bar := by
  obtain ⟨fd, Fd⟩ := c.def_ 7 (d := d7) rfl
  have KN_stands_so := kn_stands_so (P := P) (w := w) (base := base) G c
  exact kn_of (lv := 1) (N := N_bar) (fb := ev_bar) Fd G.g_bar sc_bar (fun _ _ _ _ _ _ us hl => match us, hl with | [_], _ => rfl) (fun _ _ _ _ _ _ us ws hl => match us, ws, hl with | [], [_], _ => rfl | [_], [], _ => rfl)
    fun cdv A outer s H E hr => (s_cons (s_asg (i := 1) sc_bar.nd rfl (by first | exact Or.inl rfl | exact Or.inr rfl) (pe_cb call_len ok_len rfl G.b_len boot_len (pa_s (pe_at (pv 0)) pa_s0)))
 (s_cons (s_for passes_fn rfl (src_r1 rfl G.b_range (pa_s (pe_at (pv 1)) pa_s0)) (g_nm (i := 2) sc_bar.nd rfl (by first | exact Or.inl rfl | exact Or.inr rfl)) (s_one (s_for passes_fn rfl (src_r2 rfl G.b_range (pa_s (pe_ex (pe_add' (pe_at (pv 2)) (pe_ex pe_cInt))) (pa_s (pe_at (pv 1)) pa_s0))) (g_nm (i := 3) sc_bar.nd rfl (by first | exact Or.inl rfl | exact Or.inr rfl)) (s_one (s_for passes_fn rfl (src_r2 rfl G.b_range (pa_s (pe_ex (pe_add' (pe_at (pv 3)) (pe_ex pe_cInt))) (pa_s (pe_at (pv 1)) pa_s0))) (g_nm (i := 4) sc_bar.nd rfl (by first | exact Or.inl rfl | exact Or.inr rfl)) (s_one (s_for passes_fn rfl (src_r2 rfl G.b_range (pa_s (pe_ex (pe_add' (pe_at (pv 4)) (pe_ex pe_cInt))) (pa_s (pe_at (pv 1)) pa_s0))) (g_nm (i := 5) sc_bar.nd rfl (by first | exact Or.inl rfl | exact Or.inr rfl)) (s_cons (s_asg (i := 6) sc_bar.nd rfl (by first | exact Or.inl rfl | exact Or.inr rfl) (pe_tupD (fs := [evVar 2, evVar 3, evVar 4, evVar 5]) (pa_s (pe_ex (pe_nm (pv 2))) (pa_s (pe_ex (pe_nm (pv 3))) (pa_s (pe_ex (pe_nm (pv 4))) (pa_s (pe_ex (pe_nm (pv 5))) pa_s0))))))
 (s_cons (by first | exact s_setLc (i := 7) (blk := [("place", 8)]) rfl sc_bar.nd (src_seq (pe_at (pv 6))) rfl rfl (sw_true rfl rfl rfl (by rfl)) ⟨blkOk_by (by kernel_rfl), fun _ _ _ _ _ => (g_nm (i := 8) sc_bar.nd rfl (by first | exact Or.inl rfl | exact Or.inr rfl)), fun _ _ _ _ _ => pts_0, fun _ _ _ _ _ => (pe_sub1 (pe_at (pv 0)) (pe_at (pv 8))), by decide⟩ | exact s_asg (i := 7) sc_bar.nd rfl (by first | exact Or.inl rfl | exact Or.inr rfl) (pe_lcE (blk := [("place", 8)]) rfl sc_bar.nd (src_seq (pe_at (pv 6))) ⟨blkOk_by (by kernel_rfl), fun _ _ _ _ _ => (g_nm (i := 8) sc_bar.nd rfl (by first | exact Or.inl rfl | exact Or.inr rfl)), fun _ _ _ _ _ => pts_0, fun _ _ _ _ _ => (pe_sub1 (pe_at (pv 0)) (pe_at (pv 8))), by decide⟩))
 (s_one (s_if (pt_ev (pe_cb (cr_any rfl) ok_any rfl G.b_any boot_any (pa_s (pe_ex (pe_lcE (blk := [("told", 9)]) rfl sc_bar.nd (src_seq (pe_ex (pe_con G.k_BARS rfl))) ⟨blkOk_by (by kernel_rfl), fun _ _ _ _ _ => (g_nm (i := 9) sc_bar.nd rfl (by first | exact Or.inl rfl | exact Or.inr rfl)), fun _ _ _ _ _ => pts_0, fun _ _ _ _ _ => (pe_fn (KN_stands_so.mono (by decide)) hr rfl takes0 (pa_s (pe_at (pv 7)) (pa_s (pe_at (pv 9)) pa_s0))), by decide⟩)) pa_s0))) (s_one (s_ret (pe_mv (pv 6)))) s_nil)))))))))))
 (s_one (s_ret pe_cNon))))
def N__law_one : List Str := ["_law_feed_here", "_law_things"]
theorem sc__law_one : FnScope N__law_one ["_law_feed_here", "_law_things"] (defScope (top 21)) := ⟨rfl, rfl, rfl, by decide +kernel, rfl, by decide +kernel, by decide +kernel⟩
theorem kn__law_one (G : Gk K mg) (c : He.SaysD fa fn K) : Kn P w K mg base 2 "_law_one" ["_law_feed_here", "_law_things"] 0 F__law_one := by
  obtain ⟨fd, Fd⟩ := c.def_ 12 (d := d12) rfl
  have KN__law_draw := kn__law_draw (P := P) (w := w) (base := base) G c
  exact kn_of (lv := 1) (N := N__law_one) (fb := ev__law_one) Fd G.g__law_one sc__law_one (fun _ _ _ _ _ _ us hl => match us, hl with | [_, _], _ => rfl) (fun _ _ _ _ _ _ us ws hl => match us, ws, hl with | [], [_, _], _ => rfl | [_], [_], _ => rfl | [_, _], [], _ => rfl)
    fun cdv A outer s H E hr => (s_one (s_ret (pe_sub1 (pe_at (pv 1)) (pe_ex (pe_fn (KN__law_draw.mono (by decide)) hr rfl takes_fn (pa_s (pe_at (pv 0)) (pa_s (pe_ex (pe_cb call_len ok_len rfl G.b_len boot_len (pa_s (pe_at (pv 1)) pa_s0))) pa_s0)))))))
def N__law_bar : List Str := ["_law_order", "_law_found", "_law_last", "_law_third", "_law_two", "_law_one_here", "_law_places", "_law_at"]
theorem sc__law_bar : FnScope N__law_bar ["_law_order"] (defScope (top 24)) := ⟨rfl, rfl, rfl, by decide +kernel, rfl, by decide +kernel, by decide +kernel⟩
theorem kn__law_bar (G : Gk K mg) (c : He.SaysD fa fn K) : Kn P w K mg base 2 "_law_bar" ["_law_order"] 7 F__law_bar := by
  obtain ⟨fd, Fd⟩ := c.def_ 15 (d := d15) rfl
  have KN__law_stands := kn__law_stands (P := P) (w := w) (base := base) G c
  exact kn_of (lv := 1) (N := N__law_bar) (fb := ev__law_bar) Fd G.g__law_bar sc__law_bar (fun _ _ _ _ _ _ us hl => match us, hl with | [_], _ => rfl) (fun _ _ _ _ _ _ us ws hl => match us, ws, hl with | [], [_], _ => rfl | [_], [], _ => rfl)
    fun cdv A outer s H E hr => (s_cons (s_asg (i := 1) sc__law_bar.nd rfl (by first | exact Or.inl rfl | exact Or.inr rfl) (pe_lstD (fs := []) pa_s0))
 (s_cons (s_for passes_fn rfl (src_r1 rfl G.b_range (pa_s (pe_ex (pe_cb call_len ok_len rfl G.b_len boot_len (pa_s (pe_at (pv 0)) pa_s0))) pa_s0)) (g_nm (i := 2) sc__law_bar.nd rfl (by first | exact Or.inl rfl | exact Or.inr rfl)) (s_one (s_for passes_fn rfl (src_r1 rfl G.b_range (pa_s (pe_at (pv 2)) pa_s0)) (g_nm (i := 3) sc__law_bar.nd rfl (by first | exact Or.inl rfl | exact Or.inr rfl)) (s_one (s_for passes_fn rfl (src_r1 rfl G.b_range (pa_s (pe_at (pv 3)) pa_s0)) (g_nm (i := 4) sc__law_bar.nd rfl (by first | exact Or.inl rfl | exact Or.inr rfl)) (s_one (s_for passes_fn rfl (src_r1 rfl G.b_range (pa_s (pe_at (pv 4)) pa_s0)) (g_nm (i := 5) sc__law_bar.nd rfl (by first | exact Or.inl rfl | exact Or.inr rfl)) (s_cons (s_asg (i := 6) sc__law_bar.nd rfl (by first | exact Or.inl rfl | exact Or.inr rfl) (pe_tupD (fs := [evVar 5, evVar 4, evVar 3, evVar 2]) (pa_s (pe_ex (pe_nm (pv 5))) (pa_s (pe_ex (pe_nm (pv 4))) (pa_s (pe_ex (pe_nm (pv 3))) (pa_s (pe_ex (pe_nm (pv 2))) pa_s0))))))
 (s_one (s_if (pt_cm (op_inA (HV hr)) ok_in (pe_ex (pe_fn (KN__law_stands.mono (by decide)) hr rfl takes_fn (pa_s (pe_ex (pe_lcE (blk := [("_law_at", 7)]) rfl sc__law_bar.nd (src_seq (pe_at (pv 6))) ⟨blkOk_by (by kernel_rfl), fun _ _ _ _ _ => (g_nm (i := 7) sc__law_bar.nd rfl (by first | exact Or.inl rfl | exact Or.inr rfl)), fun _ _ _ _ _ => pts_0, fun _ _ _ _ _ => (pe_sub1 (pe_at (pv 0)) (pe_at (pv 7))), by decide⟩)) pa_s0))) (pe_ex (pe_lstD (fs := [evPm pLst ([evC (.int 1), evC (.int 3), evC (.int 0), evC (.int 2)].map .ex), evPm pLst ([evC (.int 2), evC (.int 0), evC (.int 3), evC (.int 1)].map .ex)]) (pa_s (pe_ex (pe_lstD (fs := [evC (.int 1), evC (.int 3), evC (.int 0), evC (.int 2)]) (pa_s (pe_ex pe_cInt) (pa_s (pe_ex pe_cInt) (pa_s (pe_ex pe_cInt) (pa_s (pe_ex pe_cInt) pa_s0)))))) (pa_s (pe_ex (pe_lstD (fs := [evC (.int 2), evC (.int 0), evC (.int 3), evC (.int 1)]) (pa_s (pe_ex pe_cInt) (pa_s (pe_ex pe_cInt) (pa_s (pe_ex pe_cInt) (pa_s (pe_ex pe_cInt) pa_s0)))))) pa_s0)))) (by rfl) fInX_bool) (s_one (s_expr (pe_append (pv 1) (pe_nm (pv 6))))) s_nil))))))))))
 (s_one (s_ret (pe_if (pt_cm (op_neX (HU hr)) ok_neX (pe_at (pv 1)) (pe_ex (pe_lstD (fs := []) pa_s0)) (nomark _) fNeX_bool) (pe_cb (cr_minD rfl (HV hr)) ok_best rfl G.b_min boot_min (pa_s (pe_at (pv 1)) pa_s0)) pe_cNon)))))
def N_need_order : List Str := ["order"]
theorem sc_need_order : FnScope N_need_order ["order"] (defScope (top 9)) := ⟨rfl, rfl, rfl, by decide +kernel, rfl, by decide +kernel, by decide +kernel⟩
theorem kn_need_order (G : Gk K mg) (c : He.SaysD fa fn K) : Kn P w K mg base 3 "need_order" ["order"] 0 F_need_order := by
  obtain ⟨fd, Fd⟩ := c.def_ 2 (d := d2) rfl
  have KN_is_order := kn_is_order (P := P) (w := w) (base := base) G c
  exact kn_of (lv := 2) (N := N_need_order) (fb := ev_need_order) Fd G.g_need_order sc_need_order (fun _ _ _ _ _ _ us hl => match us, hl with | [_], _ => rfl) (fun _ _ _ _ _ _ us ws hl => match us, ws, hl with | [], [_], _ => rfl | [_], [], _ => rfl)
    fun cdv A outer s H E hr => (s_one (s_if (pt_n (pt_ev (pe_fn (KN_is_order.mono (by decide)) hr rfl takes_fn (pa_s (pe_at (pv 0)) pa_s0)))) (s_one (s_raise rfl takes_fn G.x_BadOrder G.c_BadOrder rfl)) s_nil))
def N_bar_of : List Str := ["order"]
theorem sc_bar_of : FnScope N_bar_of ["order"] (defScope (top 17)) := ⟨rfl, rfl, rfl, by decide +kernel, rfl, by decide +kernel, by decide +kernel⟩
theorem kn_bar_of (G : Gk K mg) (c : He.SaysD fa fn K) : Kn P w K mg base 4 "bar_of" ["order"] 0 F_bar_of := by
  obtain ⟨fd, Fd⟩ := c.def_ 9 (d := d9) rfl
  have KN_bar := kn_bar (P := P) (w := w) (base := base) G c
  have KN_need_order := kn_need_order (P := P) (w := w) (base := base) G c
  exact kn_of (lv := 3) (N := N_bar_of) (fb := ev_bar_of) Fd G.g_bar_of sc_bar_of (fun _ _ _ _ _ _ us hl => match us, hl with | [_], _ => rfl) (fun _ _ _ _ _ _ us ws hl => match us, ws, hl with | [], [_], _ => rfl | [_], [], _ => rfl)
    fun cdv A outer s H E hr => (s_cons (s_expr (pe_fn (KN_need_order.mono (by decide)) hr rfl takes_fn (pa_s (pe_at (pv 0)) pa_s0)))
 (s_one (s_ret (pe_fn (KN_bar.mono (by decide)) hr rfl takes_fn (pa_s (pe_at (pv 0)) pa_s0)))))
def N_tree_between : List Str := ["order", "begin", "end", "middle", "word", "first", "second"]
theorem sc_tree_between : FnScope N_tree_between ["order", "begin", "end"] (defScope (top 11)) := ⟨rfl, rfl, rfl, by decide +kernel, rfl, by decide +kernel, by decide +kernel⟩
theorem kc_tree_between (G : Gk K mg) (c : He.SaysD fa fn K) : ∀ n : Nat, Kn P w K mg base (1 + n) "tree_between" ["order", "begin", "end"] 4 (F_tree_between n)
  | 0 => by
    obtain ⟨fdtree_between, Fdtree_between⟩ := c.def_ 4 (d := d4) rfl
    exact kn_never Fdtree_between G.g_tree_between (fun _ _ _ _ _ _ us hl => match us, hl with | [_, _, _], _ => rfl) (fun _ _ _ _ _ _ us ws hl => match us, ws, hl with | [], [_, _, _], _ => rfl | [_], [_, _], _ => rfl | [_, _], [_], _ => rfl | [_, _, _], [], _ => rfl)
  | n + 1 => by
    obtain ⟨fdtree_between, Fdtree_between⟩ := c.def_ 4 (d := d4) rfl
    have KN_word_between := kn_word_between (P := P) (w := w) (base := base) G c
    have ih := kc_tree_between G c n
    have KN_tree_between := ih
    rw [F_tree_between_s]
    exact kn_of (lv := 1 + n) (N := N_tree_between) (fb := ev_tree_between (F_tree_between n)) Fdtree_between G.g_tree_between sc_tree_between (fun _ _ _ _ _ _ us hl => match us, hl with | [_, _, _], _ => rfl) (fun _ _ _ _ _ _ us ws hl => match us, ws, hl with | [], [_, _, _], _ => rfl | [_], [_, _], _ => rfl | [_, _], [_], _ => rfl | [_, _, _], [], _ => rfl)
      (fun cdv A outer s H E hr => (s_cons (s_if (pt_cm (op_eqX (HU hr)) ok_eqX (pe_ex (pe_sub' (pe_at (pv 2)) (pe_at (pv 1)))) (pe_ex pe_cInt) (nomark _) fEqX_bool) (s_one (s_ret (pe_nm (pv 1)))) s_nil)
 (s_cons (s_for passes_fn rfl (src_r2 rfl G.b_range (pa_s (pe_ex (pe_add' (pe_at (pv 1)) (pe_ex pe_cInt))) (pa_s (pe_at (pv 2)) pa_s0))) (g_nm (i := 3) sc_tree_between.nd rfl (by first | exact Or.inl rfl | exact Or.inr rfl)) (s_cons (s_asg (i := 4) sc_tree_between.nd rfl (by first | exact Or.inl rfl | exact Or.inr rfl) (pe_fn (KN_word_between.mono (by omega)) hr rfl takes_fn (pa_s (pe_at (pv 0)) (pa_s (pe_at (pv 1)) (pa_s (pe_at (pv 3)) (pa_s (pe_at (pv 2)) pa_s0))))))
 (s_one (s_if (pt_cm op_notN ok_isN (pe_at (pv 4)) (pe_ex pe_cNon) (nomark _) fIsN_bool) (s_cons (s_asg (i := 5) sc_tree_between.nd rfl (by first | exact Or.inl rfl | exact Or.inr rfl) (pe_fn (KN_tree_between.mono (by omega)) hr rfl takes_fn (pa_s (pe_at (pv 0)) (pa_s (pe_at (pv 1)) (pa_s (pe_at (pv 3)) pa_s0)))))
 (s_cons (s_asg (i := 6) sc_tree_between.nd rfl (by first | exact Or.inl rfl | exact Or.inr rfl) (pe_fn (KN_tree_between.mono (by omega)) hr rfl takes_fn (pa_s (pe_at (pv 0)) (pa_s (pe_at (pv 3)) (pa_s (pe_at (pv 2)) pa_s0)))))
 (s_one (s_ret (pe_if (PW.pt (pw_o (pt_cm op_isN ok_is (pe_at (pv 5)) (pe_ex pe_cNon) (nomark _) fIs_bool) (pw_o1 (pt_cm op_isN ok_is (pe_at (pv 6)) (pe_ex pe_cNon) (nomark _) fIs_bool)))) pe_cNon (pe_tupD (fs := [evVar 4, evVar 5, evVar 6]) (pa_s (pe_ex (pe_nm (pv 4))) (pa_s (pe_ex (pe_nm (pv 5))) (pa_s (pe_ex (pe_nm (pv 6))) pa_s0))))))))) s_nil))))
 (s_one (s_ret pe_cNon)))))
theorem kn_tree_between (G : Gk K mg) (c : He.SaysD fa fn K) (n : Nat) : Kn P w K mg base (1 + n) "tree_between" ["order", "begin", "end"] 4 (F_tree_between n) := (kc_tree_between G c n)
def N_tree_of : List Str := ["order"]
theorem sc_tree_of : FnScope N_tree_of ["order"] (defScope (top 12)) := ⟨rfl, rfl, rfl, by decide +kernel, rfl, by decide +kernel, by decide +kernel⟩
theorem kn_tree_of (G : Gk K mg) (c : He.SaysD fa fn K) : Kn P w K mg base 11 "tree_of" ["order"] 0 F_tree_of := by
  obtain ⟨fd, Fd⟩ := c.def_ 5 (d := d5) rfl
  have KN_tree_between := kn_tree_between (P := P) (w := w) (base := base) G c 9
  exact kn_of (lv := 10) (N := N_tree_of) (fb := ev_tree_of) Fd G.g_tree_of sc_tree_of (fun _ _ _ _ _ _ us hl => match us, hl with | [_], _ => rfl) (fun _ _ _ _ _ _ us ws hl => match us, ws, hl with | [], [_], _ => rfl | [_], [], _ => rfl)
    fun cdv A outer s H E hr => (s_one (s_ret (pe_fn (KN_tree_between.mono (by decide)) hr rfl takes_fn (pa_s (pe_at (pv 0)) (pa_s (pe_ex pe_cInt) (pa_s (pe_ex (pe_cb call_len ok_len rfl G.b_len boot_len (pa_s (pe_at (pv 0)) pa_s0))) pa_s0))))))
def N_split_tree : List Str := ["order"]
theorem sc_split_tree : FnScope N_split_tree ["order"] (defScope (top 16)) := ⟨rfl, rfl, rfl, by decide +kernel, rfl, by decide +kernel, by decide +kernel⟩
theorem kn_split_tree (G : Gk K mg) (c : He.SaysD fa fn K) : Kn P w K mg base 12 "split_tree" ["order"] 0 F_split_tree := by
  obtain ⟨fd, Fd⟩ := c.def_ 8 (d := d8) rfl
  have KN_need_order := kn_need_order (P := P) (w := w) (base := base) G c
  have KN_tree_of := kn_tree_of (P := P) (w := w) (base := base) G c
  exact kn_of (lv := 11) (N := N_split_tree) (fb := ev_split_tree) Fd G.g_split_tree sc_split_tree (fun _ _ _ _ _ _ us hl => match us, hl with | [_], _ => rfl) (fun _ _ _ _ _ _ us ws hl => match us, ws, hl with | [], [_], _ => rfl | [_], [], _ => rfl)
    fun cdv A outer s H E hr => (s_cons (s_expr (pe_fn (KN_need_order.mono (by decide)) hr rfl takes_fn (pa_s (pe_at (pv 0)) pa_s0)))
 (s_one (s_ret (pe_fn (KN_tree_of.mono (by decide)) hr rfl takes_fn (pa_s (pe_at (pv 0)) pa_s0)))))
def N__law_is_right : List Str := ["_law_order", "_law_due"]
theorem sc__law_is_right : FnScope N__law_is_right ["_law_order"] (defScope (top 25)) := ⟨rfl, rfl, rfl, by decide +kernel, rfl, by decide +kernel, by decide +kernel⟩
theorem kn__law_is_right (G : Gk K mg) (c : He.SaysD fa fn K) : Kn P w K mg base 13 "_law_is_right" ["_law_order"] 1 F__law_is_right := by
  obtain ⟨fd, Fd⟩ := c.def_ 16 (d := d16) rfl
  have KN__law_bar := kn__law_bar (P := P) (w := w) (base := base) G c
  have KN_bar_of := kn_bar_of (P := P) (w := w) (base := base) G c
  have KN_split_tree := kn_split_tree (P := P) (w := w) (base := base) G c
  exact kn_of (lv := 12) (N := N__law_is_right) (fb := ev__law_is_right) Fd G.g__law_is_right sc__law_is_right (fun _ _ _ _ _ _ us hl => match us, hl with | [_], _ => rfl) (fun _ _ _ _ _ _ us ws hl => match us, ws, hl with | [], [_], _ => rfl | [_], [], _ => rfl)
    fun cdv A outer s H E hr => (s_cons (s_asg (i := 1) sc__law_is_right.nd rfl (by first | exact Or.inl rfl | exact Or.inr rfl) (pe_fn (KN__law_bar.mono (by decide)) hr rfl takes_fn (pa_s (pe_at (pv 0)) pa_s0)))
 (s_cons (s_if (PW.pt (pw_o (pt_cm (op_neX (HU hr)) ok_neX (pe_ex (pe_cb (cr_repr hr.g (HV hr)) ok_repr rfl G.b_repr boot_repr (pa_s (pe_ex (pe_fn (KN_bar_of.mono (by decide)) hr rfl takes_fn (pa_s (pe_at (pv 0)) pa_s0))) pa_s0))) (pe_ex (pe_cb (cr_repr hr.g (HV hr)) ok_repr rfl G.b_repr boot_repr (pa_s (pe_at (pv 1)) pa_s0))) (nomark _) fNeX_bool) (pw_o1 (pt_cm (op_neX (HU hr)) ok_neX (pe_ex (pe_cb (cr_repr hr.g (HV hr)) ok_repr rfl G.b_repr boot_repr (pa_s (pe_ex (pe_fnK0 (KN_bar_of.mono (by decide)) hr rfl takes_fn (pk_1 (pe_at (pv 0)) pk_0))) pa_s0))) (pe_ex (pe_cb (cr_repr hr.g (HV hr)) ok_repr rfl G.b_repr boot_repr (pa_s (pe_at (pv 1)) pa_s0))) (nomark _) fNeX_bool)))) (s_one (s_ret pe_cBl)) s_nil)
 (s_one (s_ret (pe_cm (op_eqX (HU hr)) ok_eqX (pe_ex (pe_cm op_isN ok_is (pe_ex (pe_fn (KN_split_tree.mono (by decide)) hr rfl takes_fn (pa_s (pe_at (pv 0)) pa_s0))) (pe_ex pe_cNon) (nomark _))) (pe_ex (pe_cm op_notN ok_isN (pe_at (pv 1)) (pe_ex pe_cNon) (nomark _))) (nomark _))))))
def N_law : List Str := ["_law_script", "_law_k", "_law_feed_here", "_law_many", "_law_total", "_law_factor", "_law_begin", "_law_number", "_law_turn"]
theorem sc_law : FnScope N_law ["_law_script"] (defScope (top 26)) := ⟨rfl, rfl, rfl, by decide +kernel, rfl, by decide +kernel, by decide +kernel⟩
theorem fn_law (G : Gk K mg) (c : He.SaysD fa fn K) {fd : FuncData} (Fd : FunD K d17.name d17.qual d17.params d17.body d17.scope (d17.dvs K) (d17.kws K) (He.fAd K d17.at_) fd) : FnG P w K mg base (L2.CX P w) 14 (He.fAd K d17.at_) fd ["_law_script"] (spV K 1 8 F_law) := by
  have KN__law_draw := kn__law_draw (P := P) (w := w) (base := base) G c
  have KN__law_feed := kn__law_feed (P := P) (w := w) (base := base) G c
  have KN__law_is_right := kn__law_is_right (P := P) (w := w) (base := base) G c
  have KN__law_numbered := kn__law_numbered (P := P) (w := w) (base := base) G c
  exact fnok_of (lv := 13) (N := N_law) (fb := ev_law) Fd sc_law fun cdv A outer s H E hr => (s_cons (s_for passes_fn rfl (src_r1 rfl G.b_range (pa_s (pe_ex pe_cInt) pa_s0)) (g_nm (i := 1) sc_law.nd rfl (by first | exact Or.inl rfl | exact Or.inr rfl)) (s_cons (s_asg (i := 2) sc_law.nd rfl (by first | exact Or.inl rfl | exact Or.inr rfl) (pe_fn (KN__law_feed.mono (by decide)) hr rfl takes_fn (pa_s (pe_at (pv 0)) (pa_s (pe_at (pv 1)) pa_s0))))
 (s_cons (s_for passes_fn rfl (src_r2 rfl G.b_range (pa_s (pe_ex pe_cInt) (pa_s (pe_ex pe_cInt) pa_s0))) (g_nm (i := 3) sc_law.nd rfl (by first | exact Or.inl rfl | exact Or.inr rfl)) (s_cons (s_asg (i := 4) sc_law.nd rfl (by first | exact Or.inl rfl | exact Or.inr rfl) pe_cInt)
 (s_cons (s_for passes_fn rfl (src_r2 rfl G.b_range (pa_s (pe_ex pe_cInt) (pa_s (pe_ex (pe_add' (pe_at (pv 3)) (pe_ex pe_cInt))) pa_s0))) (g_nm (i := 5) sc_law.nd rfl (by first | exact Or.inl rfl | exact Or.inr rfl)) (s_one (s_asg (i := 4) sc_law.nd rfl (by first | exact Or.inl rfl | exact Or.inr rfl) (pe_mul' (pe_at (pv 4)) (pe_at (pv 5))))))
 (s_cons (s_asg (i := 6) sc_law.nd rfl (by first | exact Or.inl rfl | exact Or.inr rfl) (pe_fn (KN__law_draw.mono (by decide)) hr rfl takes_fn (pa_s (pe_at (pv 2)) (pa_s (pe_ex (pe_cb (call_max2 rfl) ok_max2 rfl G.b_max boot_max (pa_s (pe_ex pe_cInt) (pa_s (pe_ex (pe_sub' (pe_at (pv 4)) (pe_ex pe_cInt))) pa_s0)))) pa_s0))))
 (s_one (s_for passes_fn rfl (src_r2 rfl G.b_range (pa_s (pe_at (pv 6)) (pa_s (pe_ex (pe_cb (call_min2 rfl) ok_min2 rfl G.b_min boot_min (pa_s (pe_at (pv 4)) (pa_s (pe_ex (pe_add' (pe_at (pv 6)) (pe_ex pe_cInt))) pa_s0)))) pa_s0))) (g_nm (i := 7) sc_law.nd rfl (by first | exact Or.inl rfl | exact Or.inr rfl)) (s_one (s_if (pt_n (pt_ev (pe_fn (KN__law_is_right.mono (by decide)) hr rfl takes_fn (pa_s (pe_ex (pe_fn (KN__law_numbered.mono (by decide)) hr rfl takes_fn (pa_s (pe_at (pv 3)) (pa_s (pe_at (pv 7)) pa_s0)))) pa_s0)))) (s_one (s_ret pe_cBl)) s_nil))))))))
 (s_one (s_for passes_fn rfl (src_r1 rfl G.b_range (pa_s (pe_ex pe_cInt) pa_s0)) (g_nm (i := 8) sc_law.nd rfl (by first | exact Or.inl rfl | exact Or.inr rfl)) (s_one (s_if (pt_n (pt_ev (pe_fn (KN__law_is_right.mono (by decide)) hr rfl takes_fn (pa_s (pe_ex (pe_fn (KN__law_numbered.mono (by decide)) hr rfl takes_fn (pa_s (pe_ex pe_cInt) (pa_s (pe_ex (pe_fn (KN__law_draw.mono (by decide)) hr rfl takes_fn (pa_s (pe_at (pv 2)) (pa_s (pe_ex pe_cInt) pa_s0)))) pa_s0)))) pa_s0)))) (s_one (s_ret pe_cBl)) s_nil)))))))
 (s_one (s_ret pe_cBl)))
end
end L57
set_option Elab.async false
set_option linter.all false
set_option autoImplicit false
set_option maxRecDepth 100000
set_option maxHeartbeats 0
/-! the head and the end of law_k57_bars_of_all_orders (printed by pr2.py) -/
namespace L57
open PySem PySem.Spec L2 Ev
open PyProof.Rows hiding St
def loose0 : List PySem.Str := ["__name__", "TongueError", "BadOrder", "is_integer", "MOST_PLACES", "BARS", "is_order", "need_order", "word_between", "tree_between", "tree_of", "stands_so", "bar", "split_tree", "bar_of", "_law_feed", "_law_draw", "_law_one", "_law_numbered", "_law_stands", "_law_bar", "_law_is_right"]
def loose : List PySem.Str := loose0
abbrev R : PySem.W.OpenRow := PySem.W.OpenLaw.row PySem.Challenge.rw_pairedtongues_k57_bars_of_all_orders
abbrev hk : PySem.W.Hook := hookE 4 fa fn exB
def ob (s : PySem.W.SharedT) : He.AlD × Bool := obsE 4 fa fn exB (HandSHeadRun.getT s)
theorem ob_eq (s : PySem.W.SharedT) : ob s = hk.obs s.abs := obsE_eq (HandSHeadRun.getT_eq s)
theorem run (w : World) : HandSHeadRun.RunEq R (PySem.W.view R.prog [26]) hk ob 4000 loose w := by
  intro os
  kernel_rfl
end L57
open PySem PySem.W PySem.Calls
open PyProof.Rows hiding St
theorem PySem.Challenge.cw_pairedtongues_k57_bars_of_all_orders_holds : PySem.Challenge.rw_pairedtongues_k57_bars_of_all_orders.Holds := by
  w_on; o_law
  refine HandSHeadRun.head_any (r := L57.R) (q := view L57.R.prog [26]) (H := L57.hk) (ob := L57.ob) (M := 4000) (loose := L57.loose) (d := HandSHeadRun.topDef L57.R.prog 26) (kwd := []) L57.ob_eq
    (by kernel_rfl) (fun s => by kernel_rfl) L57.run (by kernel_rfl) (by kernel_rfl) (by kernel_rfl) (by rfl) (by first | assumption | decide +kernel) (by decide +kernel) ⟨rfl, rfl, rfl, rfl, rfl, by decide +kernel⟩ ?hw ?hc
  case hw => w_witness2
  case hc =>
    refine Ev.walk_ofG (l := PySem.Challenge.rw_pairedtongues_k57_bars_of_all_orders) (n := 63) (k := 14) (x := "_law_script") (CX := fun w => L2.CX (PySem.Challenge.rw_pairedtongues_k57_bars_of_all_orders).prog w) rfl (by decide) (by kernel_rfl) ⟨rfl, by decide, by decide⟩ ?F (fun _ _ _ _ _ z => Ev.cx_none z)
    intro w mg f h Y G hmg0
    obtain ⟨K, KX, c, x⟩ := Y
    have hmg : mg ("law" : PySem.Str) = some (.ref f) := by
      have e : (HandSHeadRun.topDef L57.R.prog 26).name = ("law" : PySem.Str) := by kernel_rfl
      rw [← e]
      exact hmg0
    have gk := L57.gk KX G c x
    have e := hmg.symm.trans gk.g_law
    cases e
    obtain ⟨fd, Fd⟩ := c.def_ 17 (d := L57.d17) rfl
    have b := L2.FunD.bindsA (ps := ["_law_script"]) Fd fun _ _ _ _ _ _ us hl => match us, hl with | [_], _ => rfl
    refine ⟨K, fd, Ev.spV K 1 8 L57.F_law, KX, fun s v => b s [v] rfl, fun H a ns hl hb _ hS => ?_, fun base _ _ => ?_⟩
    · obtain ⟨r, hr⟩ := L57.law_true ns hl hb
      exact Ev.law_sp hS hr
    · exact L57.fn_law (P := (PySem.Challenge.rw_pairedtongues_k57_bars_of_all_orders).prog) (w := w) (base := base) gk c Fd
