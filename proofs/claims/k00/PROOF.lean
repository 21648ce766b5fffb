import PyProof.Rows.All
import HandS.ForMost
import HandS.Walk
import KE.GoesMore
import HandS.Exc
import HandS.TryOnly
import HandS.ExcOwn
import HandS.WordsExc
import HandS.CallSlots
import HandS.Defaults
import HandS.TupAny
import HandS.Conv
import HandS.Call
import HandS.List
import HandS.Zip
import HandS.ExcIs
import HandS.ExcValue
import HandS.ExcInit
import KE.SortKeyed
import KE.SortData
import HandS.Wide
import HandS.Deep
import HandS.DeepEq
import HandS.HeadHook1
import KE.KeyNested
import HandS.IsInst
import HandS.SortInts
import HandS.SetFor
import PyProof.ExcBaseAll.ValueError
import HandS.Style
import HandS.HeadEnd
import HandS.EndBits
import HandS.HeadHook2
import HandS.Head2
import KE.DataMinMax
import PyProof.ReprRoads
import PyProof.P3In
import HandS.TupLe
import PyProof.NeData
import HandS.WideBits
import HandS.Strs
import HandS.Star
import HandS.SetKeys
import HandS.Lambda
import HandS.ExcSuper
import KE.KTupSum
import KE.SortKeyHeap
import HandS.SortKw
import KE.KSortKey
import HandS.DictComp
import HandS.EndTab
import Wide.All
import OpenK.AllK
import Wide.FinOn
import KE.KStateDown
import KE.KDictDisplayH
import Open.Seg
import KE.DataFind
import HandS.More
import HandS.Text
import HandS.WordsDict
import KE.KDictZip
import HandS.SetTxt0
import HandS.SetBool
import HandS.Comp
import HandS.TupMul
import HandS.StrMore
import PyProof.NeKinds
import PyProof.FactsAll.dict
import PyProof.Rows.TupDisplay
import KE.KDictKeyed
import PyProof.WalksMore
import HandS.RaiseMore
import KE.KDictPairs
import HandS.ExcField
import KE.KExcSuper
import HandS.TryMany
import HandS.ExcCtx
import KE.KExcIs
import PyProof.StrBlockL
import PyProof.FitsInt
import PyProof.ReprText
import PySem.Challenge.RW_pairedtongues_k00_error_classes
import HandS.Head0
import HandS.Head1
set_option Elab.async false
set_option linter.all false
set_option maxRecDepth 100000
namespace L2
open PySem PySem.Spec PyProof.Rows
open AutoSeq1 (wpAny_loadPart')
theorem meets_enum_tup (l : Addr) (items : Array Value) (n : Nat) (dct : Option Addr) (sl : Array (Option Value)) :
    Meets (Builtin.«enumerate.__new__» ⟨[.type "enumerate", .ref l], []⟩) (fun _ R s => s.heap.get? l = some { cls := .type "tuple", dict := dct, data := .seq items n, slots := sl } ∧
      R (.ok (.ret (.ref (s.heap.push { cls := .type "tuple_iterator", data := .fields #[.ref l, .int 0 0] }).objs.size)))
        { s with heap := (s.heap.push { cls := .type "tuple_iterator", data := .fields #[.ref l, .int 0 0] }).push { cls := .type "enumerate", data := .fields #[.none, .bool false, .ref s.heap.objs.size, rawInt 0, .none, .none] } }) :=
  .of_wp fun prog w A R s h => by
    obtain ⟨hp, g, d, tk, os⟩ := s; obtain ⟨hl, h⟩ := h
    have hsub := sub_enumerate
    have hL : Heap.IsTuple (Shared.heap ⟨hp, g, d, tk, os⟩) l items := ⟨_, hl, rfl, n, rfl⟩
    wp_walk using wpAny_loadPart' hl
    refine wpAny_stack_any fun st => wpAny_pure ?_
    split
    · rename_i c _ _ _ _ _
      cases (c == Value.type "enumerate")
      · wp_walk using wpAny_loadPart' hl, wpAny_pyIter_tuple hL
        exact ⟨_, rfl, h⟩
      · wp_walk using wpAny_loadPart' hl, wpAny_pyIter_tuple hL
        exact ⟨_, rfl, h⟩
    · wp_walk using wpAny_loadPart' hl, wpAny_pyIter_tuple hL
      exact ⟨_, rfl, h⟩
section
variable {prog : Program} {w : World} {A : Around} {E : Value → Shared → Prop} {s : Shared}
theorem call_enum_tup {l : Addr} {items : Array Value} {Q : Value → Shared → Prop} (hL : s.heap.IsTuple l items)
    (h : ∀ h', IsEnum h' (s.heap.objs.size + 1) s.heap.objs.size 0 .none → h'.IsTupleIter s.heap.objs.size l 0 → h'.objs.size = s.heap.objs.size + 2 →
      (∀ b o, s.heap.get? b = some o → h'.get? b = some o) → Q (.ref (s.heap.objs.size + 1)) { s with heap := h' }) :
    wpAny (model prog w) A (call (.type "enumerate") [.ref l]) Q E s := by
  obtain ⟨⟨c, dct, dt, sl⟩, hl, hc, n, hd⟩ := hL
  replace hc : c = .type "tuple" := hc
  replace hd : dt = .seq items n := hd
  subst hc hd
  refine callType_new F.called_enumerate (by decide) (F.typeCall_enumerate_1 _) (F.newCall_enumerate_1 _) (fun obj => F.args_object_init_2 obj _) F.entry_enumerate_new
    (meets_enum_tup l items n dct sl) ⟨hl, ?_⟩
  have hz : (s.heap.push { cls := .type "tuple_iterator", data := .fields #[.ref l, .int 0 0] }).objs.size = s.heap.objs.size + 1 := Heap.size_push ..
  show _ ∧ _
  rw [hz]
  have he : IsEnum ((s.heap.push { cls := .type "tuple_iterator", data := .fields #[.ref l, .int 0 0] }).push
      { cls := .type "enumerate", data := .fields #[.none, .bool false, .ref s.heap.objs.size, rawInt 0, .none, .none] }) (s.heap.objs.size + 1) s.heap.objs.size 0 .none := by
    have := Heap.get?_push_size (s.heap.push { cls := .type "tuple_iterator", data := .fields #[.ref l, .int 0 0] })
      (o := { cls := .type "enumerate", data := .fields #[.none, .bool false, .ref s.heap.objs.size, rawInt 0, .none, .none] }) rfl
    rw [hz] at this; exact this
  refine ⟨⟨_, he, rfl⟩, h _ he ⟨_, Heap.get?_push_of_some _ (Heap.get?_push_size _ rfl), rfl, rfl⟩ (by rw [Heap.size_push, hz]) fun b o x => Heap.get?_push_of_some _ (Heap.get?_push_of_some _ x)⟩
end
theorem enum_tup_end {prog : Program} {w : World} {A : Around} {E : Value → Shared → Prop} {s : Shared} {e it t : Addr} {i : Nat} {c : Int} {items : Array Value} {old : Value} {Q : Option Value → Shared → Prop} (hh : A.handled = none)
    (he : IsEnum s.heap e it c old) (hit : s.heap.IsTupleIter it t i) (ht : s.heap.IsTuple t items) (hx : items[i]? = none)
    (hQ : ∀ h', Heap.ExtBut it s.heap h' → Q none { s with heap := h' }) : wpAny (model prog w) A (pyNext (.ref e)) Q E s := by
  have hT : s.TypeIs (.ref e) "enumerate" := ⟨_, he, rfl⟩
  unfold pyNext
  refine wpAny_bind (wpAny_attempt (wpAny_callSpecial?_slot (name := Str.ofString "__next__") hT F.slot_enumerate_next
    (wpAny_call_entry F.slot_enumerate_next hT F.entry_enumerate_next ?_ (F.args_enumerate_next_1 _))))
  show wpAny _ _ (field (.ref e) 2 >>= _) _ _ _
  refine wpAny_bind (wpAny_field he rfl (x := .ref it) rfl ?_)
  refine wpAny_bind (wpAny_nextOf_tuple_end hh hit ht hx fun h' x he' hx' => ?_)
  obtain ⟨o, ho, hc⟩ := hx'
  refine wpAny_bind (wpAny_isInstance (T := "StopIteration") (b := true) ⟨o, ho, hc⟩ isSubtype_stop ?_)
  exact wpAny_pure (hQ _ he')
/-- the tuple at a as it stands at each turn, each item in a new pair -/
def IteT (K : PySem.W.Frag) (a : Addr) : It :=
  ⟨fun i H => ∃ (xs : List V) (x : V), SqT K H a xs ∧ xs[i]? = some x, fun i H v H' => ∃ (T : Addr) (o : Obj) (x : V), v = .ref T ∧ H T = none ∧ o.dict = none ∧ H' = upd H T (.frz o (.tup [.int (i : Nat), x])) ∧ ∀ xs, SqT K H a xs → xs[i]? = some x, fun i H => ∃ xs : List V, SqT K H a xs ∧ xs.length ≤ i⟩
theorem turn_enumT {P : Program} {w : World} {K : PySem.W.Frag} {elts : List Expr} {kk : Nat} {tpos : Pos} (a e it : Addr) :
    Turn P w K (.Tuple elts kk tpos) (IteT K a) [e, it] e (fun i h => (∃ old, IsEnum h e it ((i : Nat) : Int) old) ∧ h.IsTupleIter it a i ∧ e ≠ it ∧ a ≠ it ∧ a ≠ e) where
  mem := by simp
  obj := fun i h st b hb => by
    obtain ⟨⟨old, he⟩, ⟨o, ho, hc, hd⟩, _⟩ := st
    have e' : b = e ∨ b = it := by simpa using hb
    rcases e' with z | z
    · rw [z]; exact ⟨_, he, fun v q => nomatch q⟩
    · rw [z]; exact ⟨o, ho, fun v q => by rw [hd] at q; cases q⟩
  keep := fun i h h' st k => let ⟨⟨old, he⟩, hi, hne⟩ := st; ⟨⟨old, k e (by simp) _ he⟩, hi.at fun o q => k it (by simp) o q, hne⟩
  item := by
    intro X hP hw hK hc i pins s σ H E I hf st hg
    subst hP hw hK
    obtain ⟨⟨old, he⟩, hit, hne, hai, hae⟩ := st
    obtain ⟨xs, x, hq, hx⟩ := hg
    obtain ⟨its, rv, p, hz⟩ := I.tuple hq
    obtain ⟨u, hu, ru⟩ := rv.get hx
    have hel : e < s.heap.objs.size := Heap.lt_size he
    have hil : it < s.heap.objs.size := by obtain ⟨_, q, _⟩ := hit; exact Heap.lt_size q
    have p' : s.heap.IsTuple a its.toArray := p
    have lt : i < its.toArray.size := by
      have := (List.getElem?_eq_some_iff.mp hu).1
      simpa using this
    refine wpAny_pyNext_enum_itemD (Draws.tuple (by first | rfl | exact I.ok.hd hc) it a hai its.toArray) he ⟨hit, p'⟩ lt hne (by simp [hne, Ne.symm hae]) fun u' h' tk hu' ho hst' hT hsz hk => ?_
    have eu : u' = u := by
      have z : its[i]? = some u' := by simpa using hu'
      rw [hu] at z
      exact (Option.some.inj z).symm
    subst eu
    refine ⟨_, rfl, wpAny_letOwnedTupleGo_enum (s := { s with heap := h', toks := tk + 1 }) ho fun h'' he' sb => ?_⟩
    have hT2 : h''.get? s.heap.objs.size = some { cls := .type "tuple", data := .seq #[.int i tk, u'] } := (sb.2 _ (Nat.ne_of_gt hel)).trans hT
    let ob : Obj := { cls := .type "tuple", data := .seq #[.int i tk, u'] }
    have new : ObjOk X.prog X.w (upd H s.heap.objs.size (.frz ob (.tup [.int (i : Nat), x]))) h'' s.heap.objs.size (.frz ob (.tup [.int (i : Nat), x])) :=
      ⟨hT2, by show 2 ≤ sizeLine; decide, [.int i tk, u'], .cons ⟨_, rfl⟩ (.cons ru .nil), ⟨_, hT2, rfl, _, rfl⟩⟩
    have I1 : Inv X pins σ (upd H s.heap.objs.size (.frz ob (.tup [.int (i : Nat), x]))) { s with heap := h'', toks := tk + 1 } :=
      I.turnedNew (ch := [e, it]) (fun b ob hb q => (sb.2 b (fun z => hb (by simp [z]))).trans (hk b ob (fun z => hb (by simp [z])) (fun z => hb (by simp [z])) q)) hf (Nat.le_refl _) new
    refine ⟨.ref s.heap.objs.size, _, I1, rfl, ⟨_, ob, x, rfl, I.hok.fresh (Nat.le_refl _), rfl, rfl, fun ys hy => by rw [I.tuple_inj hy hq]; exact hx⟩, ⟨⟨u', ?_⟩, hst'.1.at fun o q => (sb.2 it (Ne.symm hne)).trans q, hne, hai, hae⟩, fun b hb => ?_⟩
    · have e1 : ((i + 1 : Nat) : Int) = (i : Int) + 1 := by omega
      rw [e1]; exact he'
    · have hb' : b < s.heap.objs.size := by
        have e' : b = e ∨ b = it := by simpa using hb
        rcases e' with z | z
        · rw [z]; exact hel
        · rw [z]; exact hil
      rw [upd_ne (Nat.ne_of_lt hb')]
      exact (hf b hb).1
  done := by
    intro X hP hw hK hc i pins s σ H E I hf st hg
    subst hP hw hK
    obtain ⟨⟨old, he⟩, hit, hne, hai, hae⟩ := st
    obtain ⟨xs, hq, hx⟩ := hg
    obtain ⟨its, rv, p, hz⟩ := I.tuple hq
    obtain ⟨f0, f1, f2, f3, f4, f5⟩ := hf it (by simp)
    have hl := rv.length
    have p' : s.heap.IsTuple a its.toArray := p
    refine enum_tup_end (I.ok.hd hc) he hit p' (by simp; omega) fun h' eb => ⟨rfl, I.turned (t' := s.toks) (fun b o hb q => eb b o hb q) f0 f1 f3 f4 f5⟩
  self := fun A i s Q E st h => let ⟨⟨_, he⟩, _⟩ := st; wpAny_pyIter_enum he h
/-- a new pair, its object known -/
def YPairF (xs ys : Nat → Option V) : Nat → Hp → V → Hp → Prop := fun i H v H' => ∃ (T : Addr) (o : Obj) (x y : V), v = .ref T ∧ H T = none ∧ o.dict = none ∧ H' = upd H T (.frz o (.tup [x, y])) ∧ xs i = some x ∧ ys i = some y
theorem walk_enumT {K : PySem.W.Frag} {a : Addr} {xs : List V} : Walk (IteT K a) xs.length (fun H => SqT K H a xs) (YPairF (fun i => some (.int (i : Nat))) (fun i => xs[i]?)) := by
  refine ⟨fun i _ hi q => ⟨xs, xs[i], q, by simp [hi]⟩, fun _ q => ⟨xs, q, Nat.le_refl _⟩, fun i H v H' _ q y => ?_⟩
  obtain ⟨T, o, x, h1, h2, h0, h3, h4⟩ := y
  exact ⟨T, o, .int (i : Nat), x, h1, h2, h0, h3, rfl, h4 xs q⟩
def IteL (K : PySem.W.Frag) (a : Addr) : It where
  go := (Ite K a).go
  yld := fun i H v H' => ∃ (T : Addr) (o : Obj) (x : V), v = .ref T ∧ H T = none ∧ o.dict = none ∧ H' = upd H T (.frz o (.tup [.int (i : Nat), x])) ∧ ∀ xs, SqL K H a xs → xs[i]? = some x
  stop := (Ite K a).stop
theorem turn_enumL {P : Program} {w : World} {K : PySem.W.Frag} {es : List Expr} {k : Nat} {tp : Pos} (a e it : Addr) :
    Turn P w K (.Tuple es k tp) (IteL K a) [e, it] e (fun i h => (∃ old, IsEnum h e it ((i : Nat) : Int) old) ∧ h.IsListIter it a i ∧ e ≠ it) := by
  have T0 := turn_enum (P := P) (w := w) (K := K) (elts := es) (kk := k) (tpos := tp) a e it
  refine { mem := T0.mem, obj := T0.obj, keep := T0.keep, self := T0.self, done := T0.done, item := ?_ }
  intro X e1 e2 e3 hc i pins s σ H E I free st g
  subst e1 e2 e3
  obtain ⟨⟨u0, st1⟩, st2, ne⟩ := st
  obtain ⟨xs, x, lx, gx⟩ := g
  obtain ⟨its, r, pl, _⟩ := I.list lx
  obtain ⟨u, hu, ru⟩ := r.get gx
  have low : ∀ c ∈ [e, it], c < s.heap.objs.size := fun c hm => by
    obtain ⟨ob, q, _⟩ := T0.obj i s.heap ⟨⟨u0, st1⟩, st2, ne⟩ c hm
    exact Heap.lt_size q
  refine wpAny_pyNext_enum_item st1 st2 pl.isList (x := u) (by simpa using hu) ne fun g1 k1 k2 kT _ kk => ?_
  refine ⟨_, rfl, wpAny_letOwnedTupleGo_enum (s := { s with heap := g1, toks := s.toks + 1 }) k1 fun g2 j1 sb => ?_⟩
  let ob : Obj := { cls := .type "tuple", data := .seq #[.int i s.toks, u] }
  have at2 : g2.get? s.heap.objs.size = some ob := (sb.2 _ (Nat.ne_of_gt (low e (by simp)))).trans kT
  have ok : ObjOk X.prog X.w (upd H s.heap.objs.size (.frz ob (.tup [.int (i : Nat), x]))) g2 s.heap.objs.size (.frz ob (.tup [.int (i : Nat), x])) :=
    ⟨at2, by show 2 ≤ sizeLine; decide, [.int i s.toks, u], .cons ⟨_, rfl⟩ (.cons ru .nil), ⟨_, at2, rfl, _, rfl⟩⟩
  have far : ∀ c o, c ∉ [e, it] → s.heap.get? c = some o → g2.get? c = some o := fun c o n q => by
    simp only [List.mem_cons, List.not_mem_nil, or_false, not_or] at n
    exact (sb.2 c n.1).trans (kk c o n.1 n.2 q)
  have new := I.turnedNew (t' := s.toks + 1) (ch := [e, it]) (fun c o n q => far c o n q) free (Nat.le_refl _) ok
  have ei : ((i + 1 : Nat) : Int) = (i : Int) + 1 := by omega
  refine ⟨.ref s.heap.objs.size, _, new, rfl, ⟨_, ob, x, rfl, I.hok.fresh (Nat.le_refl _), rfl, rfl, fun ys hy => by rw [I.list_inj hy lx]; exact gx⟩, ⟨⟨u, by rw [ei]; exact j1⟩, k2.at fun o q => (sb.2 it (Ne.symm ne)).trans q, ne⟩, fun c hm => ?_⟩
  rw [upd_ne (Nat.ne_of_lt (low c hm))]
  exact (free c hm).1
theorem walk_enumL {K : PySem.W.Frag} {a : Addr} {xs : List V} : Walk (IteL K a) xs.length (fun H => SqL K H a xs) (YPairF (fun i => some (.int (i : Nat))) (fun i => xs[i]?)) := by
  refine ⟨fun i _ hi q => ⟨xs, xs[i], q, by simp [hi]⟩, fun _ q => ⟨xs, q, Nat.le_refl _⟩, fun i H v H' _ q y => ?_⟩
  obtain ⟨T, o, x, h1, h2, h0, h3, h4⟩ := y
  exact ⟨T, o, .int (i : Nat), x, h1, h2, h0, h3, rfl, h4 xs q⟩
end L2
set_option Elab.async false
set_option linter.all false
set_option autoImplicit false
set_option maxRecDepth 100000
namespace Ev
open PySem PySem.Spec L2
open PyProof.Rows hiding St
/-- room for k calls, and no guard held -/
structure RoomG (k : Nat) (A : Around) : Prop where
  r : Room k A
  g : A.guards = some []
theorem RoomG.mono {j k : Nat} {A : Around} (r : RoomG k A) (h : j ≤ k) : RoomG j A := ⟨r.r.mono h, r.g⟩
theorem RoomG.deeper {k : Nat} {A : Around} (r : RoomG (k + 1) A) (env : PySem.Env) : RoomG k (A.deeper env) := ⟨r.r.deeper env, r.g⟩
theorem RoomG.units {k : Nat} {A : Around} (r : RoomG k A) : A.units + 64 < cLine := r.r.units
theorem RoomG.units2 {k : Nat} {A : Around} (r : RoomG k A) : A.units + 199 < cLine := by
  have := r.r.un
  omega
structure FnG (P : Program) (w : World) (K : PySem.W.Frag) (mg : Str → Option Value) (base : Heap) (CX : CXT) (k : Nat) (f : Addr) (fd : FuncData) (ps : List Str) (sp : Sp) : Prop where
  ln : ∀ vs H Q E, sp vs H Q E → vs.length = ps.length
  go : ∀ (A : Around) (outer : List PySem.Env) (s : Shared) (H : Hp) (args : Args) (us : List Value) (vs : List V) (Q : VK) (E : XK), RoomG k A → Env0 P w K mg base A outer s H → BindsTo s fd args (ps.zip us) →
    Vals vs us → sp vs H Q E → codeAny (model P w) A (.call (.ref f) args) (CR CX outer P w H s Q E) s
section
variable {P : Program} {w : World} {K : PySem.W.Frag} {mg : Str → Option Value} {base : Heap} {CX : CXT} {j k : Nat} {f : Addr} {fd : FuncData} {ps : List Str} {sp : Sp}
theorem FnG.mono (F : FnG P w K mg base CX j f fd ps sp) (h : j ≤ k) : FnG P w K mg base CX k f fd ps sp :=
  ⟨F.ln, fun A outer s H args us vs Q E hr => F.go A outer s H args us vs Q E (hr.mono h)⟩
end
section
variable {P : Program} {w : World} {K : PySem.W.Frag} {mg : Str → Option Value} {base : Heap} {x qual : Str} {params : Arguments} {body : List Stmt} {scope : Scope} {dvs : List V} {kws : List (Str × V)} {f : Addr} {fd : FuncData}
/-- the body's reading gives the promise -/
theorem fng_of {CX : CXT} {N ps : List Str} {k : Nat} {sp : Sp} (F : FunD K x qual params body scope dvs kws f fd) (S : FnScope N ps scope) (ln : ∀ vs H Q E, sp vs H Q E → vs.length = ps.length)
    (bd : ∀ (cdv : Value) (A : Around) (outer : List PySem.Env) (s : Shared) (H : Hp) (vs : List V) (Q : VK) (E : XK), RoomG k (A.deeper (envOfC qual scope s.heap.objs.size f cdv)) → sp vs H Q E →
      ∃ t, PSs (cxOf CX P w K mg base N qual scope f cdv A outer s H E) body t ∧ t { nx := fun _ H' => Q .non H', rt := Q } (start N vs) H) : FnG P w K mg base CX (k + 1) f fd ps sp := by
  obtain ⟨oc, od, dV, kV, doc, pm, an, cdv, ct, osl, rfl, lk, hcd, _, _⟩ := F.ex
  refine ⟨ln, fun A outer s H args us vs Q E gr z0 bt rr ask => ?_⟩
  have many := ln _ _ _ _ ask
  have inn : K.In s.heap := z0.mod.kin.keeps fun b o e => (z0.bs b o e).1
  have nl : s.heap.NoLimit := z0.mod.nolimit.keeps fun b o e => (z0.bs b o e).1
  refine codeAny_call_function gr.r.depth (inn _ _ lk) rfl S.co S.gen rfl (PySem.W.codeRec_of inn hcd) (bt _ _ _ _ ?_)
  refine wpAny_newFunctionEnv_cells S.kind (fun ⟨n, v⟩ hy => ?_) fun env he s1 x => ?_
  · exact (S.par n (List.of_mem_zip hy).1).imp id fun q => ⟨q, PySem.W.cellsFrom_some _ _ _ (.inl q)⟩
  · subst he
    refine ⟨nl.keeps x.toInCall.keep, codeAny_func ?_⟩
    obtain ⟨t, walk, hq⟩ := bd cdv A outer s H vs Q E (gr.deeper _) ask
    have iv : Inv (cxOf CX P w K mg base N qual scope f cdv A outer s H E) [] (start N vs) H s1 := inv_start S gr.r.hd z0 many rr x
    refine wpAny_mono (walk.run [] s1 (start N vs) H _ iv hq) (fun fl s' hs => ?_) fun e s' hs => hs
    cases fl with
    | ret u => obtain ⟨v, σ', H', J, rv, q⟩ := hs; exact ⟨v, H', J.os, J.bare, J.base, J.hok, rv, q⟩
    | next => obtain ⟨σ', H', J, q⟩ := hs; exact ⟨V.non, H', J.os, J.bare, J.base, J.hok, rfl, q⟩
    | brk => obtain ⟨_, _, _, q⟩ := hs; exact q.elim
    | cont => obtain ⟨_, _, _, q⟩ := hs; exact q.elim
end
section
variable {X : Cx} {CX : CXT} {k : Nat} {f : Addr} {fd : FuncData} {ps : List Str} {sp : Sp} {E : St → XK} {x : Str} {p pos : Pos} {e : Expr} {es : List Expr} {t : TA}
theorem run_g {pins : List (Addr × Obj)} {σ : St} {H : Hp} {s : Shared} {Q : VK} {args : Args} {us : List Value} {vs : List V} (F : FnG X.prog X.w X.K X.mg X.base CX k f fd ps sp) (hr : RoomG k X.A) (hb : BindsTo s fd args (ps.zip us)) (hx : PassesAt CX X σ (E σ))
    (I : Inv X pins σ H s) (r : Vals vs us) (h : sp vs H Q (E σ)) : codeAny (model X.prog X.w) X.A (.call (.ref f) args) (fun r s' => match r with
      | .ok (.ret u) => EP X pins σ Q u s'
      | .ok _ => False
      | .error e => X.xe e s') s := by
  refine codeAny_mono (F.go X.A X.stack s H args us vs Q (E σ) hr I.env0 hb r h) fun r s' hq => ?_
  cases r with
  | error e => exact hx pins H s e s' I hq
  | ok fl =>
    cases fl with
    | ret u => exact I.after hq
    | next => exact hq.elim
    | brk => exact hq.elim
    | cont => exact hq.elim
theorem run_gp {pins : List (Addr × Obj)} {σ : St} {H : Hp} {s : Shared} {Q : VK} {us : List Value} {vs : List V} (F : FnG X.prog X.w X.K X.mg X.base CX k f fd ps sp) (hr : RoomG k X.A) (hb : Binds X.K fd ps []) (hx : PassesAt CX X σ (E σ))
    (I : Inv X pins σ H s) (r : Vals vs us) (h : sp vs H Q (E σ)) : wpAny (model X.prog X.w) X.A (call (.ref f) us) (EP X pins σ Q) X.xe s := by
  have many : us.length = ps.length := by rw [← r.length]; exact F.ln _ _ _ _ h
  have b := hb s us I.kIn (by rw [List.append_nil]; exact many)
  rw [List.append_nil] at b
  refine wpAny_call (codeAny_mono (run_g F hr b hx I r h) fun r s' hq => ?_)
  cases r with
  | error e => exact hq
  | ok fl =>
    cases fl with
    | ret u => exact hq
    | next => exact hq.elim
    | brk => exact hq.elim
    | cont => exact hq.elim
theorem pe_callG (F : FnG X.prog X.w X.K X.mg X.base CX k f fd ps sp) (hr : RoomG k X.A) (hg : Gl X x) (hm : X.mg x = some (.ref f)) (hk : PySem.W.keepIn X.K (.ref f) = true) (hb : Binds X.K fd ps []) (hx : ∀ σ, PassesAt CX X σ (E σ))
    (ha : PA X (e :: es) t) (hdb : (x == ("__debug__" : Str)) = false := by decide) (he : starEach (e :: es) X.env = (false, eval e X.env) :: starEach es X.env := by rfl) (hpl : (backTo pos (starEach es X.env)).any (·.1) = false := by rfl) :
    PE X (.Call (.Name x p) (e :: es) [] pos) (tCallS sp E t) := ⟨fun pins s σ H Q I h =>
  wpAny_Call_Name_kw (ld_glob I hg hm (PySem.W.callWith_K (h₀ := X.base) I.ok.mod.kin hk (thn (ha.run pos pins s σ H _ I h) fun us s1 ⟨vs, H1, I1, r, q⟩ => ⟨I1.kIn, run_gp F hr hb (hx σ) I1 r q⟩) he hpl) hdb)⟩
end
end Ev
set_option Elab.async false
set_option linter.all false
set_option autoImplicit false
set_option maxRecDepth 100000
namespace Ev
open PySem PySem.Spec L2
open PyProof.Rows hiding St
noncomputable section
section
variable {X : Cx} {pos : Pos} {pins : List (Addr × Obj)} {σ : St} {H : Hp} {s : Shared}
/-- a new tuple of xs is handed on -/
def TupN (xs : List V) (H : Hp) (Q : VK) : Prop := ∀ (p : Addr) (o : Obj), H p = none → o.dict = none → Q (.ref p) (upd H p (.frz o (.tup xs)))
abbrev tupO (its : List Value) : Obj := { cls := .type "tuple", data := .seq its.toArray }
theorem tup_laid (I : Inv X pins σ H s) {xs : List V} {its : List Value} (r : Vals xs its) (z : xs.length ≤ sizeLine) {Q : VK} (q : TupN xs H Q) (t : Nat) :
    EP X pins σ Q (.ref s.heap.objs.size) { s with heap := s.heap.push (tupO its), toks := t } := by
  have f : H s.heap.objs.size = none := I.hok.fresh (Nat.le_refl _)
  have ok : ObjOk X.prog X.w (upd H s.heap.objs.size (.frz (tupO its) (.tup xs))) (s.heap.push (tupO its)) s.heap.objs.size (.frz (tupO its) (.tup xs)) :=
    ⟨Heap.get?_push_size _ rfl, z, its, r, ⟨_, Heap.get?_push_size _ rfl, rfl, _, rfl⟩⟩
  exact ⟨.ref s.heap.objs.size, _, I.laid (t' := t) (fun _ _ => Heap.get?_push_of_some _) (Nat.le_refl _) ok, rfl, q _ _ f rfl⟩
def rCatF (K : PySem.W.Frag) : R2 := fun x y H Q => ∃ a b xs ys, x = .ref a ∧ y = .ref b ∧ SqT K H a xs ∧ SqT K H b ys ∧ xs.length + ys.length ≤ sizeLine ∧
  (xs = [] → Q (.ref b) H) ∧ (xs ≠ [] → ys = [] → Q (.ref a) H) ∧ (xs ≠ [] → ys ≠ [] → TupN (xs ++ ys) H Q)
theorem op_catF : OpR X (binaryOp .Add) (rCatF X.K) := by
  intro pins s σ H x y v u Q I rx ry h
  obtain ⟨a, b, xs, ys, rfl, rfl, ha, hb, hz, q0, q1, q2⟩ := h
  cases rx; cases ry
  obtain ⟨l1, r1, p1, _⟩ := I.tuple ha
  obtain ⟨l2, r2, p2, _⟩ := I.tuple hb
  rcases Classical.em (xs = []) with hx | hx
  · subst hx
    cases r1
    exact cat_tup0 p1 p2 ⟨.ref b, H, I, rfl, q0 rfl⟩
  · have e1 : l1 ≠ [] := fun w => hx (r1.nil_iff.mp w)
    have z : l1.length + l2.length ≤ sizeLine := by rw [← r1.length, ← r2.length]; exact hz
    exact HT.cat_tup p1 p2 e1 (fun w => ⟨.ref a, H, I, rfl, q1 hx (r2.nil_iff.mp w)⟩) (fun w => tup_laid I (r1.append r2) (by rw [List.length_append]; exact hz) (q2 hx fun e => w (r2.nil_iff.mpr e)) s.toks) z
def rSlF (K : PySem.W.Frag) : V → Option Int → Option Int → Hp → VK → Prop := fun x lo hi H Q => ∃ a xs, x = .ref a ∧ SqT K H a xs ∧
  ((HT.sIx xs.length 0 lo = 0 ∧ HT.sIx xs.length xs.length hi = xs.length → Q (.ref a) H) ∧ (¬ (HT.sIx xs.length 0 lo = 0 ∧ HT.sIx xs.length xs.length hi = xs.length) → TupN (cutV xs lo hi) H Q))
theorem sl_tupF : SlR X (rSlF X.K) := by
  intro pins s σ H x v vl vu lo hi sl Q I rx hs pl pu h
  obtain ⟨a, xs, rfl, hx, q1, q2⟩ := h
  cases rx
  obtain ⟨l, r, ht, hz⟩ := I.tuple hx
  have n : l.toArray.size = xs.length := by simpa using r.length.symm
  refine ⟨"tuple", _, PyProof.Rows.slot_tuple_getitem.lookup, ht.typeIs, ?_⟩
  rcases Classical.em (HT.sIx xs.length 0 lo = 0 ∧ HT.sIx xs.length xs.length hi = xs.length) with hw | hw
  · exact getItem_tuple_whole ht hs pl pu (by simpa only [n] using hw) ⟨.ref a, H, I, rfl, q1 hw⟩
  · refine HT.getItem_tuple_cut ht hs pl pu (by simpa only [n] using hw) ?_ (by simpa only [n] using hz)
    simp only [n]
    exact tup_laid I ((r.drop _).take _) (Nat.le_trans (cutV_length xs lo hi) hz) (q2 hw) s.toks
end
end
end Ev
set_option Elab.async false
set_option linter.all false
set_option autoImplicit false
set_option maxRecDepth 100000
set_option maxHeartbeats 2000000
namespace Ev
open PySem PySem.Spec L2
open PyProof.Rows hiding St
noncomputable section
/-- an error of the class cls at a, raised or not -/
def ErO (cls : Value) (a : Addr) : HO := .ext fun h => ∃ (oe : Obj) (vs : Array Value), h.get? a = some oe ∧ Zc cls none oe ∧ oe.data = .fields vs
/-- one with a dict, at dx -/
def ErD (cls : Value) (a dx : Addr) : HO := .ext fun h => ∃ (oe : Obj) (vs : Array Value), h.get? a = some oe ∧ Zc cls (some dx) oe ∧ oe.data = .fields vs
theorem erD_ok {P : Program} {w : World} {H : Hp} {h : Heap} {a dx : Addr} {cls : Value} {oe : Obj} {vs : Array Value} (e : h.get? a = some oe) (z : Zc cls (some dx) oe) (d : oe.data = .fields vs) : ObjOk P w H h a (ErD cls a dx) :=
  ⟨⟨oe, vs, e, z, d⟩, ⟨oe, e⟩, fun h1 h2 ⟨o, v, q, r⟩ k => ⟨o, v, k o q, r⟩⟩
theorem erO_ok {P : Program} {w : World} {H : Hp} {h : Heap} {a : Addr} {cls : Value} {oe : Obj} {vs : Array Value} (e : h.get? a = some oe) (z : Zc cls none oe) (d : oe.data = .fields vs) : ObjOk P w H h a (ErO cls a) :=
  ⟨⟨oe, vs, e, z, d⟩, ⟨oe, e⟩, fun h1 h2 ⟨o, v, q, r⟩ k => ⟨o, v, k o q, r⟩⟩
section
variable {X : Cx} {pins : List (Addr × Obj)} {σ : L2.St} {H : Hp} {s : Shared}
variable {x n : Str} {c : Value} {i : Nat} {body suite : List Stmt} {b₀ : Stmt} {np pos pos' : Pos} {tb : WX → TS} {ts : Addr → Value → TS} {Wout : WX}
end
end
end Ev
set_option Elab.async false
set_option linter.all false
set_option autoImplicit false
namespace Ev
open PySem PySem.Spec L2
open PyProof.Rows hiding St
noncomputable section
def knownN : Str := "known"
def manyN : Str := "many"
def tupD (ns : List Int) : PyData := .tuple (ns.map PyData.int)
def keyD2 (ns : List Int) : PyData := .tuple [.int ns.sum, tupD ns]
def leK : List Int → List Int → Bool := PySem.W.dataLe false keyD2
def digM : List Bool → Nat
  | [] => 0
  | b :: bs => digM bs * 2 + (if b then 1 else 0)
def rowsM : Nat → List (List Int)
  | 0 => [[]]
  | n + 1 => (rowsM n).flatMap fun w => [w ++ [0], w ++ [1], w ++ [2]]
def listedM (n : Nat) : List (List Int) := (rowsM (2 ^ n)).mergeSort leK
def gtM (j : Int) (w : List Int) : Nat := digM (w.map fun i => decide (j < i))
def emptyM (c : Int) (w : List Int) : Bool := decide (Builtin.bitAnd (gtM 0 w : Nat) c = 0)
def doubleM (c : Int) (w : List Int) : Bool := !decide (Builtin.bitAnd (gtM 1 w : Nat) c = 0) || !decide (Builtin.bitAnd (Builtin.bitAnd (gtM 0 w : Nat) c) (Builtin.bitAnd (gtM 0 w : Nat) c - 1) = 0)
def memV (n : Nat) (t : Str) (c : Int) : Option Int :=
  if t = "empty" then some ((digM ((listedM n).map (emptyM c)) : Nat) : Int)
  else if t = "double" then some ((digM ((listedM n).map (doubleM c)) : Nat) : Int) else none
def memT (n : Int) : List Key → Option Int
  | [.inr t, .inl c] => if 0 ≤ c ∧ c < 65536 then memV n.toNat t c else none
  | _ => none
/-- all that a memo holds is right -/
def ConfM (n : Int) (kvs : List (List Key × V)) : Prop := (kvs.map (·.1)).Nodup ∧ ∀ p ∈ kvs, ∃ z, memT n p.1 = some z ∧ p.2 = .int z
theorem nodup_len : ∀ (n : Nat) (l : List Nat), l.Nodup → (∀ x ∈ l, x < n) → l.length ≤ n
  | 0, [], _, _ => Nat.le_refl _
  | 0, x :: l, _, h => absurd (h x (by simp)) (by omega)
  | n + 1, l, d, h => by
    by_cases hn : n ∈ l
    · have ih := nodup_len n (l.erase n) (d.erase n) fun x hx => by
        have h1 := h x (List.mem_of_mem_erase hx)
        have h2 : x ≠ n := fun z => by rw [z] at hx; exact (List.Nodup.mem_erase_iff d).mp hx |>.1 rfl
        omega
      rw [List.length_erase_of_mem hn] at ih
      omega
    · have ih := nodup_len n l d fun x hx => by
        have h1 := h x hx
        have h2 : x ≠ n := fun z => hn (z ▸ hx)
        omega
      omega
def codeM : List Key → Nat
  | [.inr t, .inl c] => 2 * c.toNat + if t = "empty" then 0 else 1
  | _ => 0
theorem memT_inv {n : Int} {k : List Key} {z : Int} (h : memT n k = some z) : ∃ t c, k = [.inr t, .inl c] ∧ 0 ≤ c ∧ c < 65536 ∧ (t = "empty" ∨ t = "double") := by
  unfold memT at h
  split at h
  · rename_i t c
    split at h
    · rename_i hc
      refine ⟨t, c, rfl, hc.1, hc.2, ?_⟩
      unfold memV at h
      split at h
      · rename_i e; exact .inl e
      · split at h
        · rename_i e; exact .inr e
        · cases h
    · cases h
  · cases h
theorem ConfM.len {n : Int} {kvs : List (List Key × V)} (h : ConfM n kvs) : kvs.length ≤ 131072 := by
  have ne : ¬ ((Str.ofString "double") = Str.ofString "empty") := by decide +kernel
  have d : ((kvs.map (·.1)).map codeM).Nodup := by
    refine (List.pairwise_map.mpr (List.Pairwise.imp_of_mem ?_ h.1))
    intro a b ha hb hab e
    obtain ⟨p, hp, rfl⟩ := List.mem_map.mp ha
    obtain ⟨q, hq, rfl⟩ := List.mem_map.mp hb
    obtain ⟨z, h1, _⟩ := h.2 p hp
    obtain ⟨z', h2, _⟩ := h.2 q hq
    obtain ⟨t, c, e1, c0, c1, ht⟩ := memT_inv h1
    obtain ⟨t', c', e2, c0', c1', ht'⟩ := memT_inv h2
    rw [e1, e2] at e hab
    simp only [codeM] at e
    rcases ht with rfl | rfl <;> rcases ht' with rfl | rfl
    · simp at e
      exact hab (by rw [show c = c' by omega])
    · simp [ne] at e
      omega
    · simp [ne] at e
      omega
    · simp [ne] at e
      exact hab (by rw [show c = c' by omega])
  have := nodup_len 131072 _ d fun x hx => by
    obtain ⟨k, hk, rfl⟩ := List.mem_map.mp hx
    obtain ⟨p, hp, rfl⟩ := List.mem_map.mp hk
    obtain ⟨z, h1, _⟩ := h.2 p hp
    obtain ⟨t, c, e1, c0, c1, ht⟩ := memT_inv h1
    rw [e1]
    simp only [codeM]
    split <;> omega
  simpa using this
/-- memo dicts belong to one object each, and hold what is right for it -/
structure MemI (H : Hp) : Prop where
  at_ : ∀ (i C dx : Addr) (fs : List (Str × V)) (k : V), H i = some (.ins C dx fs) → fs.lookup knownN = some k → ∃ a n kvs, k = .ref a ∧ fs.lookup manyN = some (.int n) ∧ H a = some (.dT kvs) ∧ ConfM n kvs
  one : ∀ (i i' C C' dx dx' : Addr) (fs fs' : List (Str × V)) (k : V), H i = some (.ins C dx fs) → H i' = some (.ins C' dx' fs') → fs.lookup knownN = some k → fs'.lookup knownN = some k → fs.lookup manyN = fs'.lookup manyN
/-- no instance but such as stood, or without a memo -/
def OldI (H H' : Hp) : Prop := ∀ (i C dx : Addr) (fs : List (Str × V)), H' i = some (.ins C dx fs) → H i = some (.ins C dx fs) ∨ fs.lookup knownN = none
theorem OldI.refl (H : Hp) : OldI H H := fun _ _ _ _ e => .inl e
theorem OldI.trans {H H' H2 : Hp} (a : OldI H H') (b : OldI H' H2) : OldI H H2 := fun i C dx fs e => (b i C dx fs e).elim (fun e => a i C dx fs e) .inr
theorem MemI.grow {H H' : Hp} (m : MemI H) (k : ∀ b kvs, H b = some (.dT kvs) → H' b = some (.dT kvs)) (o : OldI H H') : MemI H' where
  at_ := fun i C dx fs v e l => by
    rcases o i C dx fs e with e | z
    · obtain ⟨a, n, kvs, h1, h2, h3, h4⟩ := m.at_ i C dx fs v e l
      exact ⟨a, n, kvs, h1, h2, k _ _ h3, h4⟩
    · rw [z] at l; cases l
  one := fun i i' C C' dx dx' fs fs' v e e' l l' => by
    rcases o i C dx fs e with e | z
    · rcases o i' C' dx' fs' e' with e' | z
      · exact m.one i i' C C' dx dx' fs fs' v e e' l l'
      · rw [z] at l'; cases l'
    · rw [z] at l; cases l
/-- the object o at an address becomes o': an instance keeps its memo -/
def InsOk (o : Option HO) (o' : HO) : Prop := ∀ (C dx : Addr) (fs : List (Str × V)), o' = .ins C dx fs → fs.lookup knownN = none ∨ ∃ C0 dx0 fs0, o = some (.ins C0 dx0 fs0) ∧ fs.lookup knownN = fs0.lookup knownN ∧ fs.lookup manyN = fs0.lookup manyN
theorem MemI.upd {H : Hp} {a : Addr} {o' : HO} (m : MemI H) (h : ∀ kvs, H a ≠ some (.dT kvs)) (io : InsOk (H a) o') : MemI (L2.upd H a o') := by
  have back : ∀ (i C dx : Addr) (fs : List (Str × V)) (k : V), L2.upd H a o' i = some (.ins C dx fs) → fs.lookup knownN = some k → ∃ C0 dx0 fs0, H i = some (.ins C0 dx0 fs0) ∧ fs0.lookup knownN = some k ∧ fs.lookup manyN = fs0.lookup manyN := by
    intro i C dx fs k e l
    by_cases hi : i = a
    · subst hi
      rw [upd_same] at e
      cases e
      rcases io C dx fs rfl with z | ⟨C0, dx0, fs0, z1, z2, z3⟩
      · rw [z] at l; cases l
      · exact ⟨C0, dx0, fs0, z1, z2 ▸ l, z3⟩
    · rw [upd_ne hi] at e
      exact ⟨C, dx, fs, e, l, rfl⟩
  refine ⟨fun i C dx fs k e l => ?_, fun i i' C C' dx dx' fs fs' k e e' l l' => ?_⟩
  · obtain ⟨C0, dx0, fs0, e0, l0, z⟩ := back i C dx fs k e l
    obtain ⟨b, n, kvs, h1, h2, h3, h4⟩ := m.at_ i C0 dx0 fs0 k e0 l0
    exact ⟨b, n, kvs, h1, z.trans h2, by rw [upd_ne (fun q => by rw [q] at h3; exact h kvs h3)]; exact h3, h4⟩
  · obtain ⟨C0, dx0, fs0, e0, l0, z⟩ := back i C dx fs k e l
    obtain ⟨C1, dx1, fs1, e1, l1, z1⟩ := back i' C' dx' fs' k e' l'
    rw [z, z1]
    exact m.one i i' C0 C1 dx0 dx1 fs0 fs1 k e0 e1 l0 l1
theorem memI_none {H : Hp} (h : ∀ (i C dx : Addr) (fs : List (Str × V)), H i ≠ some (.ins C dx fs)) : MemI H := ⟨fun i C dx fs _ e _ => absurd e (h i C dx fs), fun i _ C _ dx _ fs _ _ e _ _ _ => absurd e (h i C dx fs)⟩
theorem InsOk.of {o : Option HO} {o' : HO} (h : ∀ (C dx : Addr) (fs : List (Str × V)), o' ≠ .ins C dx fs) : InsOk o o' := fun C dx fs e => absurd e (h C dx fs)
theorem InsOk.lst {o : Option HO} {xs : List V} : InsOk o (.lst xs) := fun _ _ _ e => nomatch e
theorem InsOk.tup {o : Option HO} {xs : List V} : InsOk o (.tup xs) := fun _ _ _ e => nomatch e
theorem InsOk.dK {o : Option HO} {xs : List (Key × V)} : InsOk o (.dK xs) := fun _ _ _ e => nomatch e
end
end Ev
set_option Elab.async false
set_option linter.all false
set_option autoImplicit false
set_option maxRecDepth 100000
namespace Ev
open PySem PySem.Spec L2
open PyProof.Rows hiding St

/-- what may be written here: no memo -/
def Mut : Option HO → Prop
  | some (.lst _) => True
  | some (.dK _) => True
  | some (.set _ _) => True
  | some (.ins _ _ _) => True
  | some (.ext _) => True
  | _ => False
theorem Mut.l2 {o : Option HO} (m : Mut o) : L2.Mut o := by
  cases o with
  | none => exact m
  | some o => cases o <;> first | exact trivial | exact m
/-- the fragment, with the program and the world (the hash of a text is the world's) -/
structure Kx where
  fr : PySem.W.Frag
  P : Program
  w : World
instance : Coe Kx PySem.W.Frag := ⟨Kx.fr⟩
abbrev Kx.lookup (K : Kx) (a : Addr) : Option Obj := K.fr.lookup a
abbrev _root_.L2.Cx.kx (X : Cx) : Kx := ⟨X.K, X.prog, X.w⟩
/-- a dict's key as data -/
def keyD : Key → PyData
  | .inl i => .int i
  | .inr x => .str x
/-- a list of the fragment: nobody changes it -/
def LstK (K : Kx) (a : Addr) (xs : List V) : Prop := ∃ (o : Obj) (its : Array Value) (n : Nat), K.lookup a = some o ∧ o.cls = .type "list" ∧ o.dict = none ∧ o.data = .seq its n ∧ its.size ≤ sizeLine ∧ Vals xs its.toList
mutual
def nk : PyData → Option NestedKey
  | .none => some .none
  | .int i => some (.num i)
  | .str x => some (.text x)
  | .tuple ds => (nks ds).map .tup
  | .bool _ | .list _ | .dict _ => none
def nks : List PyData → Option (List NestedKey)
  | [] => some []
  | d :: ds => match nk d, nks ds with
    | some k, some ks => some (k :: ks)
    | _, _ => none
end
/-- a tuple that may be a key here -/
def tk : PyData → Option NestedKey
  | .tuple ds => match nks ds with
    | some ks => if (NestedKey.tup ks).depth ≤ 8 then some (.tup ks) else none
    | none => none
  | _ => none
/-- a dict whose keys are such tuples: key, the tuple's address, value -/
def DnO (K : Kx) (a : Addr) (kvs : List (PyData × Addr × V)) : HO := .ext fun h => kvs.length ≤ sizeLine ∧ (a == sysModules) = false ∧ ∃ xs : List (NestedKey × Addr × Value),
  Paired (fun (p : PyData × Addr × V) (q : NestedKey × Addr × Value) => tk p.1 = some q.1 ∧ p.2.1 = q.2.1 ∧ RelV p.2.2 q.2.2) kvs xs ∧
  ∃ o es ep, h.get? a = some o ∧ o.ExactDict ∧ o.data = .dict es ep ∧ es.toList = xs.map (entryOfKey (nestedKind K.P K.w)) ∧ (xs.map (·.1)).Nodup
/-- a memo is not shown -/
def hidV (p : Str × V) : V := if p.1 = knownN then .bl true else p.2
/-- the object o at a is a dict: key as data, key, value; an instance of an own class (its class under the key None, then its fields), an own error (its class under the key True) -/
inductive DK (K : Kx) (a : Addr) : HO → List (PyData × V × V) → Prop
  | k (kvs : List (Key × V)) : DK K a (.dK kvs) (kvs.map fun p => (keyD p.1, kV p.1, p.2))
  | i (c : Str) (dx : Addr) (fs : List (Str × V)) : DK K a (.ins (He.ga K.fr c) dx fs) ((.none, .non, .str c) :: fs.map fun p => (.str p.1, .str p.1, hidV p))
  | e (c : Str) : DK K a (ErO (.ref (He.ga K.fr c)) a) [(.bool true, .bl true, .str c)]
  | ef (c : Str) (dx : Addr) : DK K a (ErD (.ref (He.ga K.fr c)) a dx) [(.bool true, .bl true, .str c), (.bool false, .bl false, .ref dx)]
  | x (fs : List (Str × V)) : DK K a (exd a fs) ((.bool false, .bl false, .non) :: fs.map fun p => (.str p.1, .str p.1, p.2))
  | n (kvs : List (PyData × Addr × V)) : kvs ≠ [] → (∀ p ∈ kvs, (tk p.1).isSome = true) → DK K a (DnO K a kvs) (kvs.map fun p => (p.1, .ref p.2.1, p.2.2))
/-- no dict with tuples for keys -/
def plainK : PyData → Bool
  | .dict ((.tuple _, _) :: _) => false
  | .dict ((.none, _) :: _) => false
  | .dict ((.bool _, _) :: _) => false
  | _ => true
/-- an instance is never walked -/
def InsD (H : Hp) (a : Addr) (o : HO) : Prop := ∀ C dx fs, o = .ins C dx fs → H a = some o
/-- no table of code objects -/
def NT : HO → Prop
  | .tbl _ => False
  | .dT _ => False
  | _ => True
theorem NT.tbl {o : HO} (n : NT o) : ∀ ps, o ≠ .tbl ps := fun ps e => by rw [e] at n; exact n
theorem Mut.nt {o : HO} (m : Mut (some o)) : NT o := by cases o <;> first | exact trivial | exact m
theorem DK.nt {K : Kx} {a : Addr} {o : HO} {kvs : List (PyData × V × V)} (h : DK K a o kvs) : NT o := by cases h <;> exact trivial
theorem DK.mut {K : Kx} {a : Addr} {o : HO} {kvs : List (PyData × V × V)} (h : DK K a o kvs) : Mut (some o) := by cases h <;> exact trivial
/-- texts, at least one -/
def txts : List PyData → Bool
  | [] => false
  | ds => ds.all fun d => match d with
    | .str _ => true
    | _ => false
/-- (text, anything) -/
def prs1 : PyData → Bool
  | .tuple [.str _, _] => true
  | _ => false
/-- a number or a text -/
def atmD : PyData → Bool
  | .int _ | .str _ => true
  | _ => false
/-- tuples whose object is known to have no dict: the empty one, texts, pairs with texts ahead, numbers and texts -/
def ndT : List PyData → Bool
  | [] => true
  | ds => txts ds || ds.all prs1 || ds.all atmD
/-- the object at a is known to have no dict -/
def NoD (K : Kx) (H : Hp) (a : Addr) : Prop := (∃ o u, H a = some (.frz o u) ∧ o.dict = none) ∨ ∃ o, K.lookup a = some o ∧ o.dict = none
mutual
inductive Rp (K : Kx) (H : Hp) : V → PyData → List Addr → Prop
  | non : Rp K H .non .none []
  | bl (b : Bool) : Rp K H (.bl b) (.bool b) []
  | int (i : Int) : Rp K H (.int i) (.int i) []
  | str (x : Str) : Rp K H (.str x) (.str x) []
  | lst {a : Addr} {vs : List V} {ds : List PyData} {as : List Addr} : Rd H a (.lst vs) → RpA K H vs ds as → Rp K H (.ref a) (.list ds) (a :: as)
  | lsk {a : Addr} {vs : List V} {ds : List PyData} {as : List Addr} : LstK K a vs → RpA K H vs ds as → Rp K H (.ref a) (.list ds) as
  | tup {a : Addr} {vs : List V} {ds : List PyData} {as : List Addr} : SqT K H a vs → RpA K H vs ds as → (ndT ds = true → NoD K H a) → Rp K H (.ref a) (.tuple ds) as
  | dic {a : Addr} {o : HO} {kvs : List (PyData × V × V)} {ds : List (PyData × PyData)} {as : List Addr} : Rd H a o → DK K a o kvs → RpK K H kvs ds as → InsD H a o → Rp K H (.ref a) (.dict ds) (a :: as)
inductive RpA (K : Kx) (H : Hp) : List V → List PyData → List Addr → Prop
  | nil : RpA K H [] [] []
  | cons {v : V} {vs : List V} {d : PyData} {ds : List PyData} {as bs : List Addr} : Rp K H v d as → RpA K H vs ds bs → RpA K H (v :: vs) (d :: ds) (as ++ bs)
inductive RpK (K : Kx) (H : Hp) : List (PyData × V × V) → List (PyData × PyData) → List Addr → Prop
  | nil : RpK K H [] [] []
  | cons {kd : PyData} {kv v : V} {kvs : List (PyData × V × V)} {d : PyData} {ds : List (PyData × PyData)} {as bs : List Addr} : Rp K H kv kd [] → Rp K H v d as → RpK K H kvs ds bs → RpK K H ((kd, kv, v) :: kvs) ((kd, d) :: ds) (as ++ bs)
end
section
variable {K : Kx} {H H' : Hp}
theorem Rd.keep {a : Addr} {o : HO} {W : Addr → Prop} (hk : ∀ b o, H b = some o → ¬ W b → NT o → H' b = some o) (h : Rd H a o) (hw : ¬ W a) (nt : NT o) : Rd H' a o := by
  rcases h with h | ⟨x, h⟩
  · exact .inl (hk _ _ h hw nt)
  · exact .inr ⟨x, hk _ _ h hw trivial⟩
theorem NoD.keep {a : Addr} {W : Addr → Prop} (hk : ∀ b o, H b = some o → ¬ W b → NT o → H' b = some o) (hm : ∀ b, W b → ∃ o, H b = some o ∧ Mut (some o)) (h : NoD K H a) : NoD K H' a := by
  rcases h with ⟨o, u, e, n⟩ | h
  · refine .inl ⟨o, u, hk _ _ e (fun w => ?_) trivial, n⟩
    obtain ⟨x, e2, m⟩ := hm _ w
    rw [e] at e2; cases e2; exact m
  · exact .inr h
theorem Rd.there {a : Addr} {o : HO} (h : Rd H a o) : H a ≠ none := by
  rcases h with h | ⟨x, h⟩ <;> (intro e; rw [e] at h; cases h)
mutual
theorem Rp.keep {W : Addr → Prop} (hk : ∀ b o, H b = some o → ¬ W b → NT o → H' b = some o) (hm : ∀ b, W b → ∃ o, H b = some o ∧ Mut (some o)) : ∀ (d : PyData) (v : V) (as : List Addr), Rp K H v d as → (∀ b ∈ as, ¬ W b) → Rp K H' v d as
  | .none, _, _, h, _ => by cases h; exact .non
  | .bool b, _, _, h, _ => by cases h; exact .bl b
  | .int i, _, _, h, _ => by cases h; exact .int i
  | .str x, _, _, h, _ => by cases h; exact .str x
  | .list ds, _, _, h, hw => by
    cases h with
    | lst h1 h2 => exact .lst (Rd.keep hk h1 (hw _ (by simp)) trivial) (RpA.keep hk hm ds _ _ h2 fun b hb => hw b (by simp [hb]))
    | lsk h1 h2 => exact .lsk h1 (RpA.keep hk hm ds _ _ h2 hw)
  | .tuple ds, _, _, h, hw => by
    cases h with
    | tup h1 h2 h9 =>
      refine .tup ?_ (RpA.keep hk hm ds _ _ h2 hw) fun z => NoD.keep hk hm (h9 z)
      rcases h1 with h1 | h1
      · refine .inl (Rd.keep hk h1 (fun hw => ?_) trivial)
        obtain ⟨o, e, m⟩ := hm _ hw
        rcases h1 with h1 | ⟨x, h1⟩ <;> (rw [h1] at e; cases e; exact m)
      · exact .inr h1
  | .dict ds, _, _, h, hw => by
    cases h with
    | dic h1 h0 h2 h3 => exact .dic (Rd.keep hk h1 (hw _ (by simp)) h0.nt) h0 (RpK.keep hk hm ds _ _ h2 fun b hb => hw b (by simp [hb])) fun C dx fs z => hk _ _ (h3 C dx fs z) (hw _ (by simp)) h0.nt
theorem RpA.keep {W : Addr → Prop} (hk : ∀ b o, H b = some o → ¬ W b → NT o → H' b = some o) (hm : ∀ b, W b → ∃ o, H b = some o ∧ Mut (some o)) : ∀ (ds : List PyData) (vs : List V) (as : List Addr), RpA K H vs ds as → (∀ b ∈ as, ¬ W b) → RpA K H' vs ds as
  | [], _, _, h, _ => by cases h; exact .nil
  | d :: ds, _, _, h, hw => by
    cases h with
    | cons h1 h2 => exact .cons (Rp.keep hk hm d _ _ h1 fun b hb => hw b (by simp [hb])) (RpA.keep hk hm ds _ _ h2 fun b hb => hw b (by simp [hb]))
theorem RpK.keep {W : Addr → Prop} (hk : ∀ b o, H b = some o → ¬ W b → NT o → H' b = some o) (hm : ∀ b, W b → ∃ o, H b = some o ∧ Mut (some o)) : ∀ (ds : List (PyData × PyData)) (kvs : List (PyData × V × V)) (as : List Addr), RpK K H kvs ds as → (∀ b ∈ as, ¬ W b) → RpK K H' kvs ds as
  | [], _, _, h, _ => by cases h; exact .nil
  | (x, d) :: ds, _, _, h, hw => by
    cases h with
    | cons h0 h1 h2 => exact .cons (Rp.keep hk hm x _ _ h0 fun _ z => nomatch z) (Rp.keep hk hm d _ _ h1 fun b hb => hw b (by simp [hb])) (RpK.keep hk hm ds _ _ h2 fun b hb => hw b (by simp [hb]))
end
mutual
theorem Rp.there : ∀ (d : PyData) (v : V) (as : List Addr), Rp K H v d as → ∀ b ∈ as, H b ≠ none
  | .none, _, _, h, _, hb => by cases h; cases hb
  | .bool _, _, _, h, _, hb => by cases h; cases hb
  | .int _, _, _, h, _, hb => by cases h; cases hb
  | .str _, _, _, h, _, hb => by cases h; cases hb
  | .list ds, _, _, h, b, hb => by
    cases h with
    | lst h1 h2 =>
      rcases List.mem_cons.mp hb with e | hb
      · rw [e]; exact Rd.there h1
      · exact RpA.there ds _ _ h2 b hb
    | lsk h1 h2 => exact RpA.there ds _ _ h2 b hb
  | .tuple ds, _, _, h, b, hb => by
    cases h with
    | tup h1 h2 => exact RpA.there ds _ _ h2 b hb
  | .dict ds, _, _, h, b, hb => by
    cases h with
    | dic h1 h0 h2 h3 =>
      rcases List.mem_cons.mp hb with e | hb
      · rw [e]; exact Rd.there h1
      · exact RpK.there ds _ _ h2 b hb
theorem RpA.there : ∀ (ds : List PyData) (vs : List V) (as : List Addr), RpA K H vs ds as → ∀ b ∈ as, H b ≠ none
  | [], _, _, h, _, hb => by cases h; cases hb
  | d :: ds, _, _, h, b, hb => by
    cases h with
    | cons h1 h2 =>
      rcases List.mem_append.mp hb with hb | hb
      · exact Rp.there d _ _ h1 b hb
      · exact RpA.there ds _ _ h2 b hb
theorem RpK.there : ∀ (ds : List (PyData × PyData)) (kvs : List (PyData × V × V)) (as : List Addr), RpK K H kvs ds as → ∀ b ∈ as, H b ≠ none
  | [], _, _, h, _, hb => by cases h; cases hb
  | (_, d) :: ds, _, _, h, b, hb => by
    cases h with
    | cons h0 h1 h2 =>
      rcases List.mem_append.mp hb with hb | hb
      · exact Rp.there d _ _ h1 b hb
      · exact RpK.there ds _ _ h2 b hb
end
mutual
def flat : PyData → Bool
  | .none | .bool _ | .int _ | .str _ => true
  | .tuple ds => flatA ds
  | .list _ | .dict _ => false
def flatA : List PyData → Bool
  | [] => true
  | d :: ds => flat d && flatA ds
end
mutual
theorem Rp.flat : ∀ (d : PyData) (v : V) (as : List Addr), Rp K H v d as → flat d = true → as = []
  | .none, _, _, h, _ => by cases h; rfl
  | .bool _, _, _, h, _ => by cases h; rfl
  | .int _, _, _, h, _ => by cases h; rfl
  | .str _, _, _, h, _ => by cases h; rfl
  | .tuple ds, _, _, h, f => by cases h with | tup h1 h2 => exact RpA.flat ds _ _ h2 (by simpa [Ev.flat] using f)
  | .list _, _, _, _, f => by simp [Ev.flat] at f
  | .dict _, _, _, _, f => by simp [Ev.flat] at f
theorem RpA.flat : ∀ (ds : List PyData) (vs : List V) (as : List Addr), RpA K H vs ds as → flatA ds = true → as = []
  | [], _, _, h, _ => by cases h; rfl
  | d :: ds, _, _, h, f => by
    cases h with
    | cons h1 h2 =>
      simp only [Ev.flatA, Bool.and_eq_true] at f
      rw [Rp.flat d _ _ h1 f.1, RpA.flat ds _ _ h2 f.2]; rfl
end
theorem RpA.length {vs : List V} {ds : List PyData} {as : List Addr} (h : RpA K H vs ds as) : vs.length = ds.length := by
  induction ds generalizing vs as with
  | nil => cases h; rfl
  | cons d ds ih => cases h with | cons h1 h2 => simp [ih h2]
theorem RpA.get {vs : List V} {ds : List PyData} {as : List Addr} (h : RpA K H vs ds as) {i : Nat} {d : PyData} (e : ds[i]? = some d) : ∃ v bs, vs[i]? = some v ∧ Rp K H v d bs ∧ ∀ b ∈ bs, b ∈ as := by
  induction ds generalizing vs as i with
  | nil => simp at e
  | cons x ds ih =>
    cases h with
    | cons h1 h2 =>
      cases i with
      | zero => simp at e; subst e; exact ⟨_, _, rfl, h1, fun b hb => by simp [hb]⟩
      | succ i =>
        obtain ⟨v, bs, q1, q2, q3⟩ := ih h2 (by simpa using e)
        exact ⟨v, bs, by simpa using q1, q2, fun b hb => by simp [q3 b hb]⟩
/-- every item on its own -/
theorem RpA.of {Z : Addr → Prop} : ∀ {ds : List PyData} {vs : List V}, vs.length = ds.length → (∀ (i : Nat) (v : V) (d : PyData), vs[i]? = some v → ds[i]? = some d → ∃ as, Rp K H v d as ∧ ∀ b ∈ as, Z b) → ∃ as, RpA K H vs ds as ∧ ∀ b ∈ as, Z b
  | [], [], _, _ => ⟨[], .nil, fun _ h => nomatch h⟩
  | [], _ :: _, h, _ => by simp at h
  | _ :: _, [], h, _ => by simp at h
  | d :: ds, v :: vs, hl, h => by
    obtain ⟨as, h1, z1⟩ := h 0 v d rfl rfl
    obtain ⟨bs, h2, z2⟩ := RpA.of (vs := vs) (ds := ds) (by simpa using hl) fun i v d e1 e2 => h (i + 1) v d (by simpa using e1) (by simpa using e2)
    exact ⟨_, .cons h1 h2, fun b hb => (List.mem_append.mp hb).elim (z1 b) (z2 b)⟩
theorem RpA.append {vs ws : List V} {ds es : List PyData} {as bs : List Addr} (h : RpA K H vs ds as) (h' : RpA K H ws es bs) : RpA K H (vs ++ ws) (ds ++ es) (as ++ bs) := by
  induction ds generalizing vs as with
  | nil => cases h; exact h'
  | cons d ds ih => cases h with | cons h1 h2 => rw [List.append_assoc]; exact .cons h1 (ih h2)
theorem RpA.sub {Z : Addr → Prop} {vs vs' : List V} {ds ds' : List PyData} {as : List Addr} (h : RpA K H vs ds as) (hz : ∀ b ∈ as, Z b) (hl : vs'.length = ds'.length) (hs : ∀ (i : Nat) (v : V) (d : PyData), vs'[i]? = some v → ds'[i]? = some d → ∃ j : Nat, vs[j]? = some v ∧ ds[j]? = some d) :
    ∃ bs, RpA K H vs' ds' bs ∧ ∀ b ∈ bs, Z b := RpA.of hl fun i v d e1 e2 => by
  obtain ⟨j, q1, q2⟩ := hs i v d e1 e2
  obtain ⟨v', cs, p1, p2, p3⟩ := h.get q2
  rw [q1] at p1; cases p1
  exact ⟨cs, p2, fun b hb => hz b (p3 b hb)⟩
end

/-- sh: nobody changes it; ow: this name alone holds it; io: the caller's, handed in to be changed; lk: walked by a loop; ex: a caught error at a, of the class named c -/
inductive Sl where
  | sh (d : PyData) | ow (d : PyData) | io (d : PyData) | lk (d : PyData) | ex (a : Addr) (c : Str)
abbrev Env := List (Option Sl)
inductive Res where
  | sh (d : PyData) | ow (d : PyData)
def Sl.d : Sl → PyData
  | .sh d | .ow d | .io d | .lk d => d
  | .ex _ _ => .none
def Res.d : Res → PyData
  | .sh d | .ow d => d
def Sl.wr : Sl → Bool
  | .ow _ | .io _ => true
  | _ => false
abbrev Own := Nat → Option Addr
def Free (own : Own) (b : Addr) : Prop := ∀ i, own i ≠ some b
def Zf (al : Addr → Prop) (own : Own) (b : Addr) : Prop := al b ∧ Free own b
/-- may be changed by this code -/
def Wr (own : Own) (ρ : Env) (b : Addr) : Prop := ∃ i s, own i = some b ∧ ρ[i]? = some (some s) ∧ s.wr = true
/-- an object of one owner: the list (dict) at a, its items free -/
def OwV (K : Kx) (H : Hp) (Z : Addr → Prop) (v : V) (d : PyData) (a : Addr) : Prop :=
  v = .ref a ∧ ((∃ vs ds as, d = .list ds ∧ H a = some (.lst vs) ∧ RpA K H vs ds as ∧ ∀ b ∈ as, Z b) ∨ (∃ o kvs ds as, d = .dict ds ∧ H a = some o ∧ DK K a o kvs ∧ RpK K H kvs ds as ∧ ∀ b ∈ as, Z b))
theorem OwV.at {K : Kx} {H : Hp} {Z : Addr → Prop} {v : V} {d : PyData} {a : Addr} (h : OwV K H Z v d a) : ∃ o, H a = some o ∧ Mut (some o) := by
  obtain ⟨_, ⟨_, _, _, _, z, _⟩ | ⟨o, _, _, _, _, z, h0, _⟩⟩ := h
  · exact ⟨_, z, trivial⟩
  · exact ⟨_, z, h0.mut⟩
def SlOk (K : Kx) (H : Hp) (al : Addr → Prop) (own : Own) (i : Nat) : Sl → V → Prop
  | .sh d, v => ∃ as, Rp K H v d as ∧ ∀ b ∈ as, Zf al own b
  | .ow d, v => ∃ a, own i = some a ∧ OwV K H (Zf al own) v d a ∧ al a
  | .io d, v => ∃ a, own i = some a ∧ OwV K H (Zf al own) v d a
  | .lk d, v => ∃ a, own i = some a ∧ OwV K H (Zf al own) v d a
  | .ex a _, v => v = .ref a
/-- the table of code objects that the lambda of Worlds.__init__ is laid in, if there is such a class -/
def theT (K : PySem.W.Frag) : Option Addr := match K.lookup (He.ma K (He.ga K "Worlds") "__init__") with
  | some ⟨_, _, .func fd, _⟩ => (match fd.code with
    | .ref c => (match K.lookup c with
      | some ⟨_, _, .fields vs, _⟩ => (match (vs[11]? : Option Value) with
        | some (Value.ref P) => some P
        | _ => none)
      | _ => none)
    | _ => none)
  | _ => none
def lamQ : Str := "Worlds.__init__.<locals>.<lambda>"
/-- a code object of the name q -/
def CodeIs (o : Obj) (q : Str) : Prop := ∃ (vs : Array Value) (t : Tok), o.data = .fields vs ∧ vs[1]? = some (.str q t)
structure TabI (H : Hp) (P : Addr) (ps : Array Value) : Prop where
  tri : TriplesOk ps.toList
  cd : ∀ (pos : Pos) (cv : Value), codeAmong pos ps.toList = some cv → ∃ c o u, cv = .ref c ∧ H c = some (.frz o u) ∧ CodeIs o lamQ
def TabsT (K : Kx) (H : Hp) : Prop := ∀ P, theT K.fr = some P → ∃ ps, H P = some (.tbl ps) ∧ TabI H P ps
structure TabsI (K : Kx) (H : Hp) : Prop where
  t : TabsT K H
  m : MemI H
theorem TabsT.keep {K : Kx} {H H' : Hp} (t : TabsT K H) (k : ∀ b o, H b = some o → ¬ Mut (some o) → H' b = some o) : TabsT K H' := fun P e => by
  obtain ⟨ps, h1, h2, h3⟩ := t P e
  refine ⟨ps, k _ _ h1 id, h2, fun pos cv hc => ?_⟩
  obtain ⟨c, o, u, e1, e2, e3⟩ := h3 pos cv hc
  exact ⟨c, o, u, e1, k _ _ e2 id, e3⟩
theorem TabsI.keep {K : Kx} {H H' : Hp} (t : TabsI K H) (k : ∀ b o, H b = some o → ¬ Mut (some o) → H' b = some o) (o : OldI H H') : TabsI K H' := ⟨t.t.keep k, t.m.grow (fun b kvs e => k b _ e id) o⟩
theorem TabsI.upd {K : Kx} {H : Hp} (t : TabsI K H) {a : Addr} {o : HO} (h : ∀ x, H a = some x → Mut (some x)) (io : InsOk (H a) o) : TabsI K (L2.upd H a o) := ⟨t.t.keep fun b x e m => by
  rw [L2.upd_ne (fun z => m (h x (by rw [← z]; exact e)))]
  exact e, t.m.upd (fun kvs e => h _ e) io⟩
structure Pre (K : Kx) (al : Addr → Prop) (own : Own) (ρ : Env) (σ : St) (H : Hp) : Prop where
  tb : TabsI K H
  fr : ∀ b, H b = none → al b
  inj : ∀ i j a, own i = some a → own j = some a → i = j
  mu : ∀ i a, own i = some a → ∃ o, H a = some o ∧ Mut (some o)
  len : ρ.length = σ.length
  sl : ∀ i s, ρ[i]? = some (some s) → ∃ v, σ[i]? = some (some v) ∧ SlOk K H al own i s v
/-- what code keeps of the heap, from (own, ρ, H) to (own', ρ', H') -/
structure Stp (own : Own) (ρ : Env) (H : Hp) (own' : Own) (ρ' : Env) (H' : Hp) : Prop where
  keep : ∀ b o, H b = some o → ¬ Wr own ρ b → NT o → H' b = some o
  dom : ∀ b, H' b = none → H b = none
  nw : ∀ i a, own' i = some a → (∃ j, own j = some a) ∨ H a = none
  fz : ∀ b, Wr own' ρ' b → Wr own ρ b ∨ H b = none
  lk : ∀ i d, ρ[i]? = some (some (.lk d)) → ρ'[i]? = some (some (.lk d)) ∧ own' i = own i
  io : ∀ i d, ρ[i]? = some (some (.io d)) → (∃ d', ρ'[i]? = some (some (.io d'))) ∧ own' i = own i
  ln : ρ'.length = ρ.length
section
variable {K : Kx} {al al' : Addr → Prop} {own own' own2 : Own} {ρ ρ' ρ2 : Env} {σ σ' : St} {H H' H2 : Hp}
theorem Stp.refl : Stp own ρ H own ρ H := ⟨fun _ _ e _ _ => e, fun _ e => e, fun i _ e => .inl ⟨i, e⟩, fun _ e => .inl e, fun _ _ e => ⟨e, rfl⟩, fun _ _ e => ⟨⟨_, e⟩, rfl⟩, rfl⟩
theorem Stp.trans (a : Stp own ρ H own' ρ' H') (b : Stp own' ρ' H' own2 ρ2 H2) : Stp own ρ H own2 ρ2 H2 where
  keep := fun c o e w n => b.keep c o (a.keep c o e w n) (fun q => (a.fz c q).elim w fun z => by rw [z] at e; cases e) n
  dom := fun c e => a.dom c (b.dom c e)
  nw := fun i c e => (b.nw i c e).elim (fun ⟨j, e⟩ => a.nw j c e) fun z => .inr (a.dom c z)
  fz := fun c e => (b.fz c e).elim (a.fz c) fun z => .inr (a.dom c z)
  lk := fun i d e => by
    obtain ⟨q1, q2⟩ := a.lk i d e
    obtain ⟨q3, q4⟩ := b.lk i d q1
    exact ⟨q3, q4.trans q2⟩
  io := fun i d e => by
    obtain ⟨⟨d1, q1⟩, q2⟩ := a.io i d e
    obtain ⟨q3, q4⟩ := b.io i d1 q1
    exact ⟨q3, q4.trans q2⟩
  ln := b.ln.trans a.ln
theorem Stp.src (s : Stp own ρ H own' ρ' H') {a : Addr} (h : H' a = none ∨ Wr own' ρ' a) : H a = none ∨ Wr own ρ a := h.elim (fun z => .inl (s.dom _ z)) fun e => (s.fz _ e).elim .inr .inl
theorem Free.wr {b : Addr} (f : Free own b) : ¬ Wr own ρ b := fun ⟨i, _, e, _⟩ => f i e
theorem Pre.wrM (p : Pre K al own ρ σ H) : ∀ b, Wr own ρ b → ∃ o, H b = some o ∧ Mut (some o) := fun b ⟨i, _, e, _⟩ => p.mu i b e
theorem Pre.freeN (p : Pre K al own ρ σ H) {b : Addr} (h : H b = none) : Zf al own b := ⟨p.fr b h, fun i e => by
  obtain ⟨o, q, _⟩ := p.mu i b e
  rw [h] at q; cases q⟩
/-- free data stays as it is -/
theorem Stp.rp (s : Stp own ρ H own' ρ' H') (p : Pre K al own ρ σ H) {v : V} {d : PyData} {as : List Addr} (r : Rp K H v d as) (z : ∀ b ∈ as, Zf al own b) : Rp K H' v d as ∧ ∀ b ∈ as, Zf al own' b := by
  refine ⟨Rp.keep (W := Wr own ρ) s.keep p.wrM d v as r fun b hb => (z b hb).2.wr, fun b hb => ⟨(z b hb).1, fun i e => ?_⟩⟩
  rcases s.nw i b e with q | q
  · obtain ⟨j, q⟩ := q; exact (z b hb).2 j q
  · exact Rp.there d v as r b hb q
theorem Zf.mono {b : Addr} (h : Zf al own b) (ha : ∀ b, al b → al' b) : Zf al' own b := ⟨ha b h.1, h.2⟩
theorem OwV.mono {Z Z' : Addr → Prop} {v : V} {d : PyData} {a : Addr} (h : OwV K H Z v d a) (hz : ∀ b, Z b → Z' b) : OwV K H Z' v d a := by
  obtain ⟨e, ⟨vs, ds, as, h1, h2, h3, h4⟩ | ⟨o, vs, ds, as, h1, h2, h0, h3, h4⟩⟩ := h
  · exact ⟨e, .inl ⟨vs, ds, as, h1, h2, h3, fun b hb => hz b (h4 b hb)⟩⟩
  · exact ⟨e, .inr ⟨o, vs, ds, as, h1, h2, h0, h3, fun b hb => hz b (h4 b hb)⟩⟩
theorem SlOk.mono {i : Nat} {s : Sl} {v : V} (h : SlOk K H al own i s v) (ha : ∀ b, al b → al' b) : SlOk K H al' own i s v := by
  cases s with
  | sh d => obtain ⟨as, r, z⟩ := h; exact ⟨as, r, fun b hb => (z b hb).mono ha⟩
  | ow d => obtain ⟨a, e, r, z⟩ := h; exact ⟨a, e, r.mono fun b hb => hb.mono ha, ha a z⟩
  | io d => obtain ⟨a, e, r⟩ := h; exact ⟨a, e, r.mono fun b hb => hb.mono ha⟩
  | lk d => obtain ⟨a, e, r⟩ := h; exact ⟨a, e, r.mono fun b hb => hb.mono ha⟩
  | ex a c => exact h
theorem Pre.mono (p : Pre K al own ρ σ H) (ha : ∀ b, al b → al' b) : Pre K al' own ρ σ H :=
  ⟨p.tb, fun b h => ha b (p.fr b h), p.inj, p.mu, p.len, fun i s e => let ⟨v, q1, q2⟩ := p.sl i s e; ⟨v, q1, q2.mono ha⟩⟩
/-- the heap grows by new objects -/
def Grow (H H' : Hp) : Prop := (∀ b o, H b = some o → H' b = some o) ∧ (∀ b, H' b = none → H b = none) ∧ OldI H H'
theorem Grow.refl : Grow H H := ⟨fun _ _ e => e, fun _ e => e, OldI.refl H⟩
/-- a new object: no instance with a memo -/
def NewO (o : HO) : Prop := ∀ (C dx : Addr) (fs : List (Str × V)), o = .ins C dx fs → fs.lookup knownN = none
theorem OldI.upd {H : Hp} {a : Addr} {o : HO} (n : NewO o) : OldI H (upd H a o) := fun i C dx fs e => by
  by_cases hi : i = a
  · subst hi
    rw [upd_same] at e
    cases e
    exact .inr (n C dx fs rfl)
  · rw [upd_ne hi] at e
    exact .inl e
theorem Grow.upd {a : Addr} {o : HO} (h : H a = none) (n : NewO o := by exact fun _ _ _ z => nomatch z) : Grow H (upd H a o) := ⟨fun b x e => by rw [upd_ne (ne_of_none e h)]; exact e, fun b e => by
  by_cases hb : b = a
  · rw [hb]; exact h
  · rw [upd_ne hb] at e; exact e, OldI.upd n⟩
theorem Grow.trans (a : Grow H H') (b : Grow H' H2) : Grow H H2 := ⟨fun c o e => b.1 c o (a.1 c o e), fun c e => a.2.1 c (b.2.1 c e), a.2.2.trans b.2.2⟩
theorem Grow.rp (g : Grow H H') {v : V} {d : PyData} {as : List Addr} (r : Rp K H v d as) : Rp K H' v d as := Rp.keep (W := fun _ => False) (fun b o e _ _ => g.1 b o e) (fun _ z => z.elim) d v as r fun _ _ z => z
theorem Grow.rpA (g : Grow H H') {v : List V} {d : List PyData} {as : List Addr} (r : RpA K H v d as) : RpA K H' v d as := RpA.keep (W := fun _ => False) (fun b o e _ _ => g.1 b o e) (fun _ z => z.elim) d v as r fun _ _ z => z
theorem Grow.rpK (g : Grow H H') {v : List (PyData × V × V)} {d : List (PyData × PyData)} {as : List Addr} (r : RpK K H v d as) : RpK K H' v d as := RpK.keep (W := fun _ => False) (fun b o e _ _ => g.1 b o e) (fun _ z => z.elim) d v as r fun _ _ z => z
theorem Grow.owV (g : Grow H H') {Z : Addr → Prop} {v : V} {d : PyData} {a : Addr} (h : OwV K H Z v d a) : OwV K H' Z v d a := by
  obtain ⟨e, ⟨vs, ds, as, h1, h2, h3, h4⟩ | ⟨o, vs, ds, as, h1, h2, h0, h3, h4⟩⟩ := h
  · exact ⟨e, .inl ⟨vs, ds, as, h1, g.1 _ _ h2, g.rpA h3, h4⟩⟩
  · exact ⟨e, .inr ⟨o, vs, ds, as, h1, g.1 _ _ h2, h0, g.rpK h3, h4⟩⟩
theorem Grow.slOk (g : Grow H H') {i : Nat} {s : Sl} {v : V} (h : SlOk K H al own i s v) : SlOk K H' al own i s v := by
  cases s with
  | sh d => obtain ⟨as, r, z⟩ := h; exact ⟨as, g.rp r, z⟩
  | ow d => obtain ⟨a, e, r, z⟩ := h; exact ⟨a, e, g.owV r, z⟩
  | io d => obtain ⟨a, e, r⟩ := h; exact ⟨a, e, g.owV r⟩
  | lk d => obtain ⟨a, e, r⟩ := h; exact ⟨a, e, g.owV r⟩
  | ex a c => exact h
theorem Pre.grow (p : Pre K al own ρ σ H) (g : Grow H H') : Pre K al own ρ σ H' :=
  ⟨p.tb.keep (fun b o e _ => g.1 b o e) g.2.2, fun b h => p.fr b (g.2.1 b h), p.inj, fun i a e => let ⟨o, q, m⟩ := p.mu i a e; ⟨o, g.1 a o q, m⟩, p.len, fun i s e => let ⟨v, q1, q2⟩ := p.sl i s e; ⟨v, q1, g.slOk q2⟩⟩
theorem Grow.stp (g : Grow H H') : Stp own ρ H own ρ H' := ⟨fun b o e _ _ => g.1 b o e, g.2.1, fun i _ e => .inl ⟨i, e⟩, fun _ e => .inl e, fun _ _ e => ⟨e, rfl⟩, fun _ _ e => ⟨⟨_, e⟩, rfl⟩, rfl⟩
/-- the addresses in a slot's value: they are there, and a new one is none of them -/
theorem SlOk.but {i : Nat} {s : Sl} {v : V} {a : Addr} (h : SlOk K H al own i s v) (hn : H a = none) : SlOk K H (fun b => al b ∧ b ≠ a) own i s v := by
  have ne : ∀ b, H b ≠ none → b ≠ a := fun b hb e => by rw [e] at hb; exact hb hn
  have neo : ∀ {b : Addr} {o : HO}, H b = some o → b ≠ a := fun {b o} hb => ne b (by rw [hb]; exact fun z => nomatch z)
  have ow : ∀ {d : PyData} {x : Addr}, OwV K H (Zf al own) v d x → OwV K H (Zf (fun b => al b ∧ b ≠ a) own) v d x ∧ x ≠ a := fun {d x} h => by
    obtain ⟨e, ⟨vs, ds, as, h1, h2, h3, h4⟩ | ⟨o, vs, ds, as, h1, h2, h0, h3, h4⟩⟩ := h
    · exact ⟨⟨e, .inl ⟨vs, ds, as, h1, h2, h3, fun b hb => ⟨⟨(h4 b hb).1, ne b (RpA.there _ _ _ h3 b hb)⟩, (h4 b hb).2⟩⟩⟩, neo h2⟩
    · exact ⟨⟨e, .inr ⟨o, vs, ds, as, h1, h2, h0, h3, fun b hb => ⟨⟨(h4 b hb).1, ne b (RpK.there _ _ _ h3 b hb)⟩, (h4 b hb).2⟩⟩⟩, neo h2⟩
  cases s with
  | sh d => obtain ⟨as, r, z⟩ := h; exact ⟨as, r, fun b hb => ⟨⟨(z b hb).1, ne b (Rp.there _ _ _ r b hb)⟩, (z b hb).2⟩⟩
  | ow d => obtain ⟨x, e, r, z⟩ := h; exact ⟨x, e, (ow r).1, z, (ow r).2⟩
  | io d => obtain ⟨x, e, r⟩ := h; exact ⟨x, e, (ow r).1⟩
  | lk d => obtain ⟨x, e, r⟩ := h; exact ⟨x, e, (ow r).1⟩
  | ex x c => exact h
/-- a new object is laid at a: nothing that stood leans on it -/
theorem Pre.lay (p : Pre K al own ρ σ H) {a : Addr} {o : HO} (hn : H a = none) (no : NewO o := by exact fun _ _ _ z => nomatch z) : Pre K (fun b => al b ∧ b ≠ a) own ρ σ (upd H a o) where
  tb := p.tb.keep (fun b x e _ => (Grow.upd hn no).1 b x e) (OldI.upd no)
  fr := fun b h => by
    have hb : b ≠ a := fun e => by rw [e, upd_same] at h; cases h
    rw [upd_ne hb] at h
    exact ⟨p.fr b h, hb⟩
  inj := p.inj
  mu := fun i b e => let ⟨x, q, m⟩ := p.mu i b e; ⟨x, (Grow.upd hn no).1 b x q, m⟩
  len := p.len
  sl := fun i s e => let ⟨v, q1, q2⟩ := p.sl i s e; ⟨v, q1, (Grow.upd hn no).slOk (q2.but hn)⟩
end
end Ev
set_option Elab.async false
set_option linter.all false
set_option autoImplicit false
set_option maxRecDepth 100000
namespace Ev
open PySem PySem.Spec L2
open PyProof.Rows hiding St

noncomputable def lineN : Nat := Classical.choose (⟨16777216, rfl⟩ : ∃ n : Nat, n = 16777216)
theorem lineN_eq : lineN = 16777216 := Classical.choose_spec (⟨16777216, rfl⟩ : ∃ n : Nat, n = 16777216)
noncomputable def p62 : Int := Classical.choose (⟨2 ^ 62, rfl⟩ : ∃ n : Int, n = 2 ^ 62)
theorem p62_eq : p62 = 2 ^ 62 := Classical.choose_spec (⟨2 ^ 62, rfl⟩ : ∃ n : Int, n = 2 ^ 62)
noncomputable def n64 : Nat := Classical.choose (⟨2 ^ 64, rfl⟩ : ∃ n : Nat, n = 2 ^ 64)
theorem n64_eq : n64 = 2 ^ 64 := Classical.choose_spec (⟨2 ^ 64, rfl⟩ : ∃ n : Nat, n = 2 ^ 64)
/-- told by a test that nothing computes -/
noncomputable def cdec (p : Prop) : Bool := @decide p (Classical.propDecidable p)
theorem cdec_of {p : Prop} (h : p) : cdec p = true := @decide_eq_true p (Classical.propDecidable p) h
theorem of_cdec {p : Prop} (h : cdec p = true) : p := @of_decide_eq_true p (Classical.propDecidable p) h
inductive Out (α : Type) where
  | ok (r : α) (ρ : Env) | exc (c : Str) (ρ : Env) | stuck
abbrev Ev := Env → Out Res
def OkE (K : Kx) (al : Addr → Prop) (own : Own) (ρ : Env) (σ : St) (H : Hp) (Q : VK) : Res → Env → Prop
  | .sh d, ρ' => ∀ v H' own' as, Pre K al own' ρ' σ H' → Stp own ρ H own' ρ' H' → Rp K H' v d as → (∀ b ∈ as, Zf al own' b) → Q v H'
  | .ow d, ρ' => ∀ v H' own' a, Pre K (fun b => al b ∧ b ≠ a) own' ρ' σ H' → Stp own ρ H own' ρ' H' → OwV K H' (Zf (fun b => al b ∧ b ≠ a) own') v d a → al a → Free own' a → (H a = none ∨ Wr own ρ a) → Q v H'
def ExE (K : Kx) (W : WX) (al : Addr → Prop) (own : Own) (ρ : Env) (σ : St) (H : Hp) (c : Str) (ρ' : Env) : Prop :=
  ∀ H' own', Pre K al own' ρ' σ H' → Stp own ρ H own' ρ' H' → W (.ref (He.ga K c)) none σ H'
def SemE (K : Kx) (W : WX) (f : Ev) : TE := fun σ H Q => ∃ al own ρ, Pre K al own ρ σ H ∧ match f ρ with
  | .ok r ρ' => OkE K al own ρ σ H Q r ρ'
  | .exc c ρ' => ExE K W al own ρ σ H c ρ'
  | .stuck => False
section
variable {K : Kx} {W : WX} {al : Addr → Prop} {own own' : Own} {ρ ρ' : Env} {σ : St} {H H' : Hp} {X : Cx}
theorem PE.imp {e : Expr} {t t' : TE} (h : PE X e t) (i : ∀ σ H Q, t' σ H Q → t σ H Q) : PE X e t' := ⟨fun pins s σ H Q I q => h.run pins s σ H Q I (i σ H Q q)⟩
theorem PT.imp {e : Expr} {t t' : TT} (h : PT X e t) (i : ∀ σ H Q, t' σ H Q → t σ H Q) : PT X e t' := ⟨fun pins s σ H Q I q => h.run pins s σ H Q I (i σ H Q q)⟩
theorem PW.imp {e : Expr} {t t' : TT} (h : PW X e t) (i : ∀ σ H Q, t' σ H Q → t σ H Q) : PW X e t' := ⟨fun wh pins s σ H Q I q => h.run wh pins s σ H Q I (i σ H Q q)⟩
theorem PA.imp {es : List Expr} {t t' : TA} (h : PA X es t) (i : ∀ σ H Q, t' σ H Q → t σ H Q) : PA X es t' := ⟨fun p pins s σ H Q I q => h.run p pins s σ H Q I (i σ H Q q)⟩
theorem PS.imp {st : Stmt} {t t' : TS} (h : PS X st t) (i : ∀ D σ H, t' D σ H → t D σ H) : PS X st t' := ⟨fun pins s σ H D I q => h.run pins s σ H D I (i D σ H q)⟩
theorem PSs.imp {st : List Stmt} {t t' : TS} (h : PSs X st t) (i : ∀ D σ H, t' D σ H → t D σ H) : PSs X st t' := ⟨fun pins s σ H D I q => h.run pins s σ H D I (i D σ H q)⟩
theorem al_but {a : Addr} : ∀ b, (fun b => al b ∧ b ≠ a) b → al b := fun _ h => h.1
theorem OwV.rp {Z : Addr → Prop} {v : V} {d : PyData} {a : Addr} (h : OwV K H Z v d a) : ∃ as, Rp K H v d (a :: as) ∧ ∀ b ∈ as, Z b := by
  obtain ⟨rfl, ⟨vs, ds, as, rfl, h2, h3, h4⟩ | ⟨o, vs, ds, as, rfl, h2, h0, h3, h4⟩⟩ := h
  · exact ⟨as, .lst (.inl h2) h3, h4⟩
  · exact ⟨as, .dic (.inl h2) h0 h3 (fun _ _ _ _ => h2), h4⟩
/-- whatever it is, from now on nobody changes it -/
theorem OkE.share {Q : VK} {r : Res} (h : ∀ v H' own' as, Pre K al own' ρ' σ H' → Stp own ρ H own' ρ' H' → Rp K H' v r.d as → (∀ b ∈ as, Zf al own' b) → Q v H') : OkE K al own ρ σ H Q r ρ' := by
  cases r with
  | sh d => exact h
  | ow d =>
    intro v H' own' a p s o ha hf _
    obtain ⟨as, r, z⟩ := o.rp
    exact h v H' own' (a :: as) (p.mono al_but) s r fun b hb => (List.mem_cons.mp hb).elim (fun e => e ▸ ⟨ha, hf⟩) fun hb => (z b hb).mono al_but
theorem OkE.after {own1 : Own} {ρ1 : Env} {H1 : Hp} {Q : VK} {r : Res} (s : Stp own ρ H own1 ρ1 H1) (h : OkE K al own ρ σ H Q r ρ') : OkE K al own1 ρ1 σ H1 Q r ρ' := by
  cases r with
  | sh d => exact fun v H' own' as p s' => h v H' own' as p (s.trans s')
  | ow d => exact fun v H' own' as p s' o ha hf hw => h v H' own' as p (s.trans s') o ha hf (s.src hw)
theorem ExE.after {own1 : Own} {ρ1 : Env} {H1 : Hp} {c : Str} (s : Stp own ρ H own1 ρ1 H1) (h : ExE K W al own ρ σ H c ρ') : ExE K W al own1 ρ1 σ H1 c ρ' := fun H' own' p s' => h H' own' p (s.trans s')

inductive Opd where
  | pl (i : Nat) | ex (f : Ev)
inductive Arg where
  | pl (i : Nat) | sh (d : PyData)
def evO : Opd → Env → Out Arg
  | .pl i, ρ => match ρ[i]? with
    | some (some _) => .ok (.pl i) ρ
    | _ => .stuck
  | .ex f, ρ => match f ρ with
    | .ok r ρ' => .ok (.sh r.d) ρ'
    | .exc c ρ' => .exc c ρ'
    | .stuck => .stuck
def evOs : List Opd → Env → Out (List Arg)
  | [], ρ => .ok [] ρ
  | o :: os, ρ => match evO o ρ with
    | .ok a ρ1 => (match evOs os ρ1 with
      | .ok as ρ2 => .ok (a :: as) ρ2
      | .exc c ρ2 => .exc c ρ2
      | .stuck => .stuck)
    | .exc c ρ1 => .exc c ρ1
    | .stuck => .stuck
def SemO (K : Kx) (W : WX) : Opd → TE
  | .pl i => tVar i
  | .ex f => SemE K W f
def ArgOk (K : Kx) (H : Hp) (al : Addr → Prop) (own : Own) (σ : St) : Arg → V → Prop
  | .pl i, v => σ[i]? = some (some v)
  | .sh d, v => ∃ as, Rp K H v d as ∧ ∀ b ∈ as, Zf al own b
def ArgsOk (K : Kx) (H : Hp) (al : Addr → Prop) (own : Own) (σ : St) : List Arg → List V → Prop
  | [], [] => True
  | a :: as, v :: vs => ArgOk K H al own σ a v ∧ ArgsOk K H al own σ as vs
  | _, _ => False
def SemOs (K : Kx) (W : WX) (os : List Opd) : TA := fun σ H Q => ∃ al own ρ, Pre K al own ρ σ H ∧ match evOs os ρ with
  | .ok as ρ' => ∀ vs H' own', Pre K al own' ρ' σ H' → Stp own ρ H own' ρ' H' → ArgsOk K H' al own' σ as vs → Q vs H'
  | .exc c ρ' => ExE K W al own ρ σ H c ρ'
  | .stuck => False
theorem ArgOk.step {a : Arg} {v : V} (s : Stp own ρ H own' ρ' H') (p : Pre K al own ρ σ H) (h : ArgOk K H al own σ a v) : ArgOk K H' al own' σ a v := by
  cases a with
  | pl i => exact h
  | sh d => obtain ⟨as, r, z⟩ := h; obtain ⟨r', z'⟩ := s.rp p r z; exact ⟨as, r', z'⟩
theorem semOs_nil {Q : List V → Hp → Prop} (h : SemOs K W [] σ H Q) : tNil σ H Q := by
  obtain ⟨al, own, ρ, p, h⟩ := h
  exact h [] H own p .refl trivial
theorem semOs_cons {o : Opd} {os : List Opd} {Q : List V → Hp → Prop} (h : SemOs K W (o :: os) σ H Q) : tCons (SemO K W o) (SemOs K W os) σ H Q := by
  obtain ⟨al, own, ρ, p, h⟩ := h
  simp only [evOs] at h
  cases o with
  | pl i =>
    simp only [evO] at h
    cases e : ρ[i]? with
    | none => simp only [e] at h
    | some s =>
      cases s with
      | none => simp only [e] at h
      | some s =>
        simp only [e] at h
        obtain ⟨v, hv, _⟩ := p.sl i s e
        refine ⟨v, hv, al, own, ρ, p, ?_⟩
        cases q : evOs os ρ with
        | ok as ρ2 => simp only [q] at h ⊢; exact fun vs H' own' p' s' a => h (v :: vs) H' own' p' s' ⟨hv, a⟩
        | exc c ρ2 => simp only [q] at h ⊢; exact h
        | stuck => simp only [q] at h
  | ex f =>
    simp only [evO] at h
    refine ⟨al, own, ρ, p, ?_⟩
    cases e : f ρ with
    | stuck => simp only [e] at h
    | exc c ρ1 => simp only [e] at h ⊢; exact h
    | ok r ρ1 =>
      simp only [e] at h ⊢
      refine OkE.share fun v H1 own1 as p1 s1 r1 z1 => ⟨al, own1, ρ1, p1, ?_⟩
      cases q : evOs os ρ1 with
      | ok as ρ2 => simp only [q] at h ⊢; exact fun vs H' own' p' s' a => h (v :: vs) H' own' p' (s1.trans s') ⟨ArgOk.step (a := .sh r.d) s' p1 ⟨_, r1, z1⟩, a⟩
      | exc c ρ2 => simp only [q] at h ⊢; exact h.after s1
      | stuck => simp only [q] at h
def look (ρ : Env) : Arg → Option PyData
  | .pl i => match ρ[i]? with
    | some (some (.ex _ _)) => none
    | some (some s) => some s.d
    | _ => none
  | .sh d => some d
def looks (ρ : Env) : List Arg → Option (List PyData)
  | [] => some []
  | a :: as => match look ρ a, looks ρ as with
    | some d, some ds => some (d :: ds)
    | _, _ => none
/-- v shows d: its own list may be somebody's, the items are free -/
def Vw (K : Kx) (H : Hp) (Z : Addr → Prop) (v : V) (d : PyData) : Prop := (∃ as, Rp K H v d as ∧ ∀ b ∈ as, Z b) ∨ ∃ a, OwV K H Z v d a
def VwA (K : Kx) (H : Hp) (Z : Addr → Prop) : List V → List PyData → Prop
  | [], [] => True
  | v :: vs, d :: ds => Vw K H Z v d ∧ VwA K H Z vs ds
  | _, _ => False
theorem ArgsOk.looks (p : Pre K al own ρ σ H) : ∀ {as : List Arg} {vs : List V} {ds : List PyData}, ArgsOk K H al own σ as vs → looks ρ as = some ds → VwA K H (Zf al own) vs ds
  | [], [], ds, _, h => by simp [Ev.looks] at h; subst h; trivial
  | [], _ :: _, _, h, _ => h.elim
  | _ :: _, [], _, h, _ => h.elim
  | a :: as, v :: vs, ds, ⟨h1, h2⟩, h => by
    simp only [Ev.looks] at h
    cases e : look ρ a with
    | none => simp [e] at h
    | some d =>
      cases q : Ev.looks ρ as with
      | none => simp [e, q] at h
      | some ds' =>
        simp [e, q] at h
        subst h
        refine ⟨?_, ArgsOk.looks p h2 q⟩
        cases a with
        | sh d' => simp [look] at e; subst e; exact .inl h1
        | pl i =>
          simp only [look] at e
          cases x : ρ[i]? with
          | none => simp [x] at e
          | some s =>
            cases s with
            | none => simp [x] at e
            | some s =>
              obtain ⟨v', e1, ok⟩ := p.sl i s x
              rw [show σ[i]? = some (some v) from h1] at e1
              cases e1
              cases s with
              | sh d => simp [x] at e; subst e; exact .inl ok
              | ow d => simp [x] at e; subst e; obtain ⟨a, _, o, _⟩ := ok; exact .inr ⟨a, o⟩
              | io d => simp [x] at e; subst e; obtain ⟨a, _, o⟩ := ok; exact .inr ⟨a, o⟩
              | lk d => simp [x] at e; subst e; obtain ⟨a, _, o⟩ := ok; exact .inr ⟨a, o⟩
              | ex a c => simp [x] at e
theorem Vw.rp {Z : Addr → Prop} {v : V} {d : PyData} (h : Vw K H Z v d) : ∃ as, Rp K H v d as := by
  rcases h with ⟨as, r, _⟩ | ⟨a, o⟩
  · exact ⟨as, r⟩
  · obtain ⟨as, r, _⟩ := o.rp; exact ⟨_, r⟩
theorem Vw.list {Z : Addr → Prop} {v : V} {ds : List PyData} (h : Vw K H Z v (.list ds)) : ∃ a vs as, v = .ref a ∧ SqL K H a vs ∧ RpA K H vs ds as ∧ ∀ b ∈ as, Z b := by
  rcases h with ⟨as, r, z⟩ | ⟨a, e, o⟩
  · cases r with
    | lst h1 h2 => exact ⟨_, _, _, rfl, .inl h1, h2, fun b hb => z b (by simp [hb])⟩
    | lsk h1 h2 => exact ⟨_, _, _, rfl, .inr h1, h2, z⟩
  · rcases o with ⟨vs, ds', as, e1, h2, h3, h4⟩ | ⟨o, vs, ds', as, e1, h2, h0, h3, h4⟩
    · cases e1; exact ⟨a, vs, as, e, .inl (.inl h2), h3, h4⟩
    · cases e1
theorem Vw.dict {Z : Addr → Prop} {v : V} {ds : List (PyData × PyData)} (h : Vw K H Z v (.dict ds)) : ∃ a o vs as, v = .ref a ∧ Rd H a o ∧ DK K a o vs ∧ RpK K H vs ds as ∧ ∀ b ∈ as, Z b := by
  rcases h with ⟨as, r, z⟩ | ⟨a, e, o⟩
  · cases r with | dic h1 h0 h2 _ => exact ⟨_, _, _, _, rfl, h1, h0, h2, fun b hb => z b (by simp [hb])⟩
  · rcases o with ⟨vs, ds', as, e1, h2, h3, h4⟩ | ⟨o, vs, ds', as, e1, h2, h0, h3, h4⟩
    · cases e1
    · cases e1; exact ⟨a, o, vs, as, e, .inl h2, h0, h3, h4⟩
theorem Vw.tuple {Z : Addr → Prop} {v : V} {ds : List PyData} (h : Vw K H Z v (.tuple ds)) : ∃ a vs as, v = .ref a ∧ SqT K H a vs ∧ RpA K H vs ds as ∧ ∀ b ∈ as, Z b := by
  rcases h with ⟨as, r, z⟩ | ⟨a, e, o⟩
  · cases r with | tup h1 h2 => exact ⟨_, _, _, rfl, h1, h2, z⟩
  · rcases o with ⟨vs, ds', as, e1, h2, h3, h4⟩ | ⟨o, vs, ds', as, e1, h2, h0, h3, h4⟩ <;> cases e1
theorem Vw.tupleN {Z : Addr → Prop} {v : V} {ds : List PyData} (h : Vw K H Z v (.tuple ds)) : ∃ a vs as, v = .ref a ∧ SqT K H a vs ∧ RpA K H vs ds as ∧ (∀ b ∈ as, Z b) ∧ (ndT ds = true → NoD K H a) := by
  rcases h with ⟨as, r, z⟩ | ⟨a, e, o⟩
  · cases r with | tup h1 h2 h3 => exact ⟨_, _, _, rfl, h1, h2, z, h3⟩
  · rcases o with ⟨vs, ds', as, e1, h2, h3, h4⟩ | ⟨o, vs, ds', as, e1, h2, h0, h3, h4⟩ <;> cases e1
theorem Vw.int {Z : Addr → Prop} {v : V} {i : Int} (h : Vw K H Z v (.int i)) : v = .int i := by obtain ⟨as, r⟩ := h.rp; cases r; rfl
theorem Vw.bl {Z : Addr → Prop} {v : V} {b : Bool} (h : Vw K H Z v (.bool b)) : v = .bl b := by obtain ⟨as, r⟩ := h.rp; cases r; rfl
theorem Vw.str {Z : Addr → Prop} {v : V} {x : Str} (h : Vw K H Z v (.str x)) : v = .str x := by obtain ⟨as, r⟩ := h.rp; cases r; rfl
theorem Vw.non {Z : Addr → Prop} {v : V} (h : Vw K H Z v .none) : v = .non := by obtain ⟨as, r⟩ := h.rp; cases r; rfl

def PmQ (K : Kx) (Z : Addr → Prop) (H : Hp) (Q : VK) : Res → Prop
  | .sh d => ∀ v H' as, Grow H H' → Rp K H' v d as → (∀ b ∈ as, Z b ∨ H b = none) → Q v H'
  | .ow d => ∀ v H' a, Grow H H' → H a = none → OwV K H' (fun b => Z b ∧ H b ≠ none) v d a → Q v H'
def PmOk (K : Kx) (r : List V → Hp → VK → Prop) (p : List PyData → Option Res) : Prop :=
  ∀ (Z : Addr → Prop) (H : Hp) (vs : List V) (ds : List PyData) (res : Res) (Q : VK), VwA K H Z vs ds → p ds = some res → PmQ K Z H Q res → r vs H Q
/-- the result, seen from the operands' state -/
theorem PmQ.of {Q : VK} {r : Res} (p : Pre K al own ρ' σ H') (h : OkE K al own ρ' σ H' Q r ρ') : PmQ K (Zf al own) H' Q r := by
  cases r with
  | sh d => exact fun v H2 as g r z => h v H2 own as (p.grow g) g.stp r fun b hb => (z b hb).elim id fun n => p.freeN n
  | ow d =>
    intro v H2 a g n o
    have hp : Pre K (fun b => al b ∧ b ≠ a) own ρ' σ H2 := ⟨p.tb.keep (fun b o e _ => g.1 b o e) g.2.2, fun b e => ⟨p.fr b (g.2.1 b e), fun q => by
        obtain ⟨x, h2, _⟩ := o.at
        rw [q, h2] at e; cases e⟩,
      p.inj, fun i b e => let ⟨x, q, m⟩ := p.mu i b e; ⟨x, g.1 b x q, m⟩, p.len, fun i s e => let ⟨v, q1, q2⟩ := p.sl i s e; ⟨v, q1, g.slOk (q2.but n)⟩⟩
    exact h v H2 own a hp g.stp (o.mono fun b ⟨z, t⟩ => ⟨⟨z.1, fun e => t (e ▸ n)⟩, z.2⟩) (p.fr a n) (p.freeN n).2 (.inl n)
def evPm (p : List PyData → Option Res) (os : List Opd) : Ev := fun ρ => match evOs os ρ with
  | .ok as ρ' => (match looks ρ' as with
    | some ds => (match p ds with
      | some r => .ok r ρ'
      | none => .stuck)
    | none => .stuck)
  | .exc c ρ' => .exc c ρ'
  | .stuck => .stuck
theorem semPm {r : List V → Hp → VK → Prop} {p : List PyData → Option Res} (ok : PmOk K r p) {os : List Opd} {Q : VK} (h : SemE K W (evPm p os) σ H Q) : SemOs K W os σ H fun vs H' => r vs H' Q := by
  obtain ⟨al, own, ρ, pr, h⟩ := h
  refine ⟨al, own, ρ, pr, ?_⟩
  simp only [evPm] at h
  cases e : evOs os ρ with
  | stuck => simp only [e] at h
  | exc c ρ' => simp only [e] at h ⊢; exact h
  | ok as ρ' =>
    simp only [e] at h ⊢
    intro vs H' own' p' s' ao
    cases l : looks ρ' as with
    | none => simp only [l] at h
    | some ds =>
      simp only [l] at h
      cases q : p ds with
      | none => simp only [q] at h
      | some r' =>
        simp only [q] at h
        exact ok (Zf al own') H' vs ds r' Q (ao.looks p' l) q (PmQ.of p' (OkE.after s' h))
theorem SemO.mono {o : Opd} {Q Q' : VK} (h : SemO K W o σ H Q) (i : ∀ v H, Q v H → Q' v H) : SemO K W o σ H Q' := by
  cases o with
  | pl j => obtain ⟨v, e, q⟩ := h; exact ⟨v, e, i v H q⟩
  | ex f =>
    obtain ⟨al, own, ρ, p, q⟩ := h
    refine ⟨al, own, ρ, p, ?_⟩
    cases e : f ρ with
    | stuck => simp only [e] at q
    | exc c ρ1 => simp only [e] at q ⊢; exact q
    | ok r ρ1 =>
      simp only [e] at q ⊢
      cases r with
      | sh d => exact fun v H' own' as a b c d => i _ _ (q v H' own' as a b c d)
      | ow d => exact fun v H' own' as a b c d e f => i _ _ (q v H' own' as a b c d e f)
/-- one, two operands -/
theorem sem1 {o : Opd} {R : List V → Hp → Prop} (h : SemOs K W [o] σ H R) : SemO K W o σ H fun x H1 => R [x] H1 :=
  SemO.mono (semOs_cons h) fun x H1 q => semOs_nil q
theorem sem2 {o o' : Opd} {R : List V → Hp → Prop} (h : SemOs K W [o, o'] σ H R) : SemO K W o σ H fun x H1 => SemO K W o' σ H1 fun y H2 => R [x, y] H2 :=
  SemO.mono (semOs_cons h) fun x H1 q => sem1 q
theorem SemE.mono {f : Ev} {Q Q' : VK} (h : SemE K W f σ H Q) (i : ∀ v H, Q v H → Q' v H) : SemE K W f σ H Q' := SemO.mono (o := .ex f) h i
end
end Ev
set_option Elab.async false
set_option linter.all false
set_option autoImplicit false
set_option maxRecDepth 100000
namespace Ev
open PySem PySem.Spec L2
open PyProof.Rows hiding St
section
variable {K : Kx} {W : WX} {al : Addr → Prop} {own own' : Own} {ρ ρ' : Env} {σ : St} {H H' : Hp} {X : Cx} {pos : Pos}
def evC (d : PyData) : Ev := fun ρ => .ok (.sh d) ρ
theorem semC {d : PyData} {v : V} (hr : ∀ H, Rp K H v d []) {Q : VK} (h : SemE K W (evC d) σ H Q) : Q v H := by
  obtain ⟨al, own, ρ, p, h⟩ := h
  exact h v H own [] p .refl (hr H) fun _ z => nomatch z
theorem pe_cInt {i : Int} {j : Nat} : PE X (.Constant (.int i) j pos) (SemE X.kx W (evC (.int i))) := PE.imp pe_int fun σ H Q h => semC (fun _ => .int i) h
theorem pe_cStr {x : Str} {j : Nat} : PE X (.Constant (.str x) j pos) (SemE X.kx W (evC (.str x))) := PE.imp pe_str fun σ H Q h => semC (fun _ => .str x) h
theorem pe_cBl {x : Bool} {j : Nat} : PE X (.Constant (.bool x) j pos) (SemE X.kx W (evC (.bool x))) := PE.imp pe_bl fun σ H Q h => semC (fun _ => .bl x) h
/-- a name's value, given away: from now on nobody changes it -/
def evVar (i : Nat) : Ev := fun ρ => match ρ[i]? with
  | some (some (.sh d)) => .ok (.sh d) ρ
  | some (some (.ow d)) => .ok (.sh d) (ρ.set i (some (.sh d)))
  | _ => .stuck
/-- own without i -/
def Own.drop (own : Own) (i : Nat) : Own := fun j => if j = i then none else own j
theorem Own.drop_some {own : Own} {i j : Nat} {a : Addr} (h : own.drop i j = some a) : own j = some a ∧ j ≠ i := by
  unfold Own.drop at h
  by_cases e : j = i
  · rw [if_pos e] at h; cases h
  · rw [if_neg e] at h; exact ⟨h, e⟩
theorem Own.drop_ne {own : Own} {i j : Nat} (h : j ≠ i) : own.drop i j = own j := if_neg h
theorem Free.drop {i : Nat} {b : Addr} (h : Free own b) : Free (own.drop i) b := fun j e => h j (Own.drop_some e).1
theorem Zf.drop {i : Nat} {b : Addr} (h : Zf al own b) : Zf al (own.drop i) b := ⟨h.1, h.2.drop⟩
theorem SlOk.drop {i j : Nat} {s : Sl} {v : V} (h : SlOk K H al own j s v) (hj : j ≠ i) : SlOk K H al (own.drop i) j s v := by
  cases s with
  | sh d => obtain ⟨as, r, z⟩ := h; exact ⟨as, r, fun b hb => (z b hb).drop⟩
  | ow d => obtain ⟨a, e, r, z⟩ := h; exact ⟨a, by rw [Own.drop_ne hj]; exact e, r.mono fun b hb => hb.drop, z⟩
  | io d => obtain ⟨a, e, r⟩ := h; exact ⟨a, by rw [Own.drop_ne hj]; exact e, r.mono fun b hb => hb.drop⟩
  | lk d => obtain ⟨a, e, r⟩ := h; exact ⟨a, by rw [Own.drop_ne hj]; exact e, r.mono fun b hb => hb.drop⟩
  | ex a c => exact h
theorem getElem?_set_cases {α : Type} {l : List α} {i j : Nat} {x y : α} (h : (l.set i x)[j]? = some y) : (j = i ∧ y = x ∧ i < l.length) ∨ (j ≠ i ∧ l[j]? = some y) := by
  by_cases e : i = j
  · subst e
    by_cases hl : i < l.length
    · rw [List.getElem?_set_self hl] at h; exact .inl ⟨rfl, (Option.some.inj h).symm, hl⟩
    · rw [List.getElem?_eq_none (by simpa using hl)] at h; cases h
  · rw [List.getElem?_set_ne e] at h; exact .inr ⟨fun z => e z.symm, h⟩
theorem semVar {i : Nat} {Q : VK} (h : SemE K W (evVar i) σ H Q) : tVar i σ H Q := by
  obtain ⟨al, own, ρ, p, h⟩ := h
  simp only [evVar] at h
  cases e : ρ[i]? with
  | none => simp only [e] at h
  | some s =>
    cases s with
    | none => simp only [e] at h
    | some s =>
      obtain ⟨v, hv, ok⟩ := p.sl i s e
      refine ⟨v, hv, ?_⟩
      cases s with
      | sh d =>
        simp only [e] at h
        obtain ⟨as, r, z⟩ := ok
        exact h v H own as p .refl r z
      | ow d =>
        simp only [e] at h
        obtain ⟨a, ea, o, ha⟩ := ok
        obtain ⟨as, r, z⟩ := o.rp
        have fa : Free (own.drop i) a := fun j q => (Own.drop_some q).2 (p.inj _ _ a (Own.drop_some q).1 ea)
        have zr : ∀ b ∈ a :: as, Zf al (own.drop i) b := fun b hb => (List.mem_cons.mp hb).elim (fun q => q ▸ ⟨ha, fa⟩) fun hb => (z b hb).drop
        have pr : Pre K al (own.drop i) (ρ.set i (some (.sh d))) σ H := ⟨p.tb, p.fr, fun j k b e1 e2 => p.inj j k b (Own.drop_some e1).1 (Own.drop_some e2).1, fun j b e1 => p.mu j b (Own.drop_some e1).1, by rw [List.length_set]; exact p.len, fun j s' e1 => by
          rcases getElem?_set_cases e1 with ⟨rfl, e2, _⟩ | ⟨hj, e2⟩
          · cases e2; exact ⟨v, hv, _, r, zr⟩
          · obtain ⟨v', h1, h2⟩ := p.sl j s' e2; exact ⟨v', h1, h2.drop hj⟩⟩
        have st : Stp own ρ H (own.drop i) (ρ.set i (some (.sh d))) H := ⟨fun _ _ q _ _ => q, fun _ q => q, fun j b q => .inl ⟨j, (Own.drop_some q).1⟩, fun b ⟨j, s', q1, q2, q3⟩ => by
            rcases getElem?_set_cases q2 with ⟨_, e2, _⟩ | ⟨hj, e2⟩
            · cases e2; cases q3
            · exact .inl ⟨j, s', (Own.drop_some q1).1, e2, q3⟩,
          fun j d' q => by
            have hj : j ≠ i := fun z => by subst z; rw [e] at q; cases q
            exact ⟨by rw [List.getElem?_set_ne (Ne.symm hj)]; exact q, Own.drop_ne hj⟩,
          fun j d' q => by
            have hj : j ≠ i := fun z => by subst z; rw [e] at q; cases q
            exact ⟨⟨d', by rw [List.getElem?_set_ne (Ne.symm hj)]; exact q⟩, Own.drop_ne hj⟩, List.length_set ..⟩
        exact h v H _ (a :: as) pr st r zr
      | io d => simp only [e] at h
      | lk d => simp only [e] at h
      | ex a c => simp only [e] at h
theorem pe_nm {i : Nat} {x : Str} (h : PE X (.Name x pos) (tVar i)) : PE X (.Name x pos) (SemE X.kx W (evVar i)) := PE.imp h fun σ H Q h => semVar h
theorem pe_at {i : Nat} {x : Str} (h : PE X (.Name x pos) (tVar i)) : PE X (.Name x pos) (SemO X.kx W (.pl i)) := h
theorem pe_ex {e : Expr} {f : Ev} (h : PE X e (SemE X.kx W f)) : PE X e (SemO X.kx W (.ex f)) := h
def r2l (r : R2) : List V → Hp → VK → Prop := fun vs H Q => match vs with
  | [x, y] => r x y H Q
  | _ => False
def pm2 (f : PyData → PyData → Option Res) : List PyData → Option Res
  | [a, b] => f a b
  | _ => none
def pm1 (f : PyData → Option Res) : List PyData → Option Res
  | [a] => f a
  | _ => none
def Ok2 (K : Kx) (r : R2) (f : PyData → PyData → Option Res) : Prop :=
  ∀ (Z : Addr → Prop) (H : Hp) (x y : V) (d e : PyData) (res : Res) (Q : VK), Vw K H Z x d → Vw K H Z y e → f d e = some res → PmQ K Z H Q res → r x y H Q
theorem pm2_ok {r : R2} {f : PyData → PyData → Option Res} (h : Ok2 K r f) : PmOk K (r2l r) (pm2 f) := by
  intro Z H vs ds res Q hv he hq
  match vs, ds, hv, he with
  | [x, y], [d, e], hv, he => exact h Z H x y d e res Q hv.1 hv.2.1 he hq
  | [], [], _, he => cases he
  | [_], [_], _, he => cases he
  | _ :: _ :: _ :: _, _ :: _ :: _ :: _, _, he => cases he
theorem pe_bin {op : Operator} {r : R2} {f : PyData → PyData → Option Res} {a b : Expr} {oa ob : Opd} (ho : OpR X (binaryOp op) r) (ok : Ok2 X.kx r f) (ha : PE X a (SemO X.kx W oa)) (hb : PE X b (SemO X.kx W ob)) :
    PE X (.BinOp a op b pos) (SemE X.kx W (evPm (pm2 f) [oa, ob])) := PE.imp (pe_op ho ha hb) fun σ H Q h => sem2 (semPm (pm2_ok ok) h)
theorem pe_cm {op : CmpOp} {r : R2} {f : PyData → PyData → Option Res} {a b : Expr} {oa ob : Opd} (ho : OpR X (compareOp op) r) (ok : Ok2 X.kx r f) (ha : PE X a (SemO X.kx W oa)) (hb : PE X b (SemO X.kx W ob)) (hm : behindInMarks op b = false) :
    PE X (.Compare a [op] [b] pos) (SemE X.kx W (evPm (pm2 f) [oa, ob])) := PE.imp (pe_cmpR ho ha hb hm) fun σ H Q h => sem2 (semPm (pm2_ok ok) h)
abbrev Tv := Env → Out Bool
def SemT (K : Kx) (W : WX) (g : Tv) : TT := fun σ H Q => ∃ al own ρ, Pre K al own ρ σ H ∧ match g ρ with
  | .ok b ρ' => ∀ H' own', Pre K al own' ρ' σ H' → Stp own ρ H own' ρ' H' → Q b H'
  | .exc c ρ' => ExE K W al own ρ σ H c ρ'
  | .stuck => False
def truthD : PyData → Option Bool
  | .none => some false
  | .bool b => some b
  | .int i => some (i != 0)
  | .list ds => some (!ds.isEmpty)
  | .tuple ds => some (!ds.isEmpty)
  | _ => none
def tvOf (f : Ev) : Tv := fun ρ => match f ρ with
  | .ok r ρ' => (match truthD r.d with
    | some b => .ok b ρ'
    | none => .stuck)
  | .exc c ρ' => .exc c ρ'
  | .stuck => .stuck
theorem RpA.isEmpty {vs : List V} {ds : List PyData} {as : List Addr} (h : RpA K H vs ds as) : vs.isEmpty = ds.isEmpty := by cases h <;> rfl
theorem truth_ok {v : V} {d : PyData} {as : List Addr} {b : Bool} (r : Rp K H v d as) (h : truthD d = some b) : TruV K v H b := by
  cases r with
  | non => cases h; rfl
  | bl x => cases h; rfl
  | int i => cases h; rfl
  | str x => cases h
  | lst h1 h2 => cases h; exact .inl ⟨_, .inl h1, by rw [h2.isEmpty]⟩
  | lsk h1 h2 => cases h; exact .inl ⟨_, .inr h1, by rw [h2.isEmpty]⟩
  | tup h1 h2 => cases h; exact .inr (.inl ⟨_, h1, by rw [h2.isEmpty]⟩)
  | dic h1 h0 h2 _ => cases h
theorem semTv' {f : Ev} {Q : Bool → Hp → Prop} (h : SemT K W (tvOf f) σ H Q) : SemE K W f σ H fun x H1 => ∃ d as b, Rp K H1 x d as ∧ truthD d = some b ∧ Q b H1 := by
  obtain ⟨al, own, ρ, p, h⟩ := h
  refine ⟨al, own, ρ, p, ?_⟩
  simp only [tvOf] at h
  cases e : f ρ with
  | stuck => simp only [e] at h
  | exc c ρ' => simp only [e] at h ⊢; exact h
  | ok r ρ' =>
    simp only [e] at h ⊢
    cases q : truthD r.d with
    | none => simp only [q] at h
    | some b =>
      simp only [q] at h
      exact OkE.share fun v H' own' as p' s' r' z' => ⟨r.d, as, b, r', q, h H' own' p' s'⟩
/-- an expression's truth (no comparison, no and | or | not) -/
theorem pt_ev {e : Expr} {f : Ev} (h : PE X e (SemE X.kx W f)) (he : ∀ whole, isTrue e X.env whole = (do let v ← whole; standAt e.pos; holding [v] (truthy v)) := by intro _; rfl) : PT X e (SemT X.kx W (tvOf f)) :=
  PT.imp (pt_truth h he) fun σ H Q q => SemE.mono (semTv' q) fun v H1 ⟨d, as, b, r, t, q⟩ => ⟨b, truth_ok r t, q⟩
theorem evPm_some {p : List PyData → Option Res} {os : List Opd} {r : Res} (e : evPm p os ρ = .ok r ρ') : ∃ ds, p ds = some r := by
  simp only [evPm] at e
  cases e1 : evOs os ρ with
  | stuck => simp only [e1] at e; cases e
  | exc c ρ1 => simp only [e1] at e; cases e
  | ok as ρ1 =>
    simp only [e1] at e
    cases e2 : looks ρ1 as with
    | none => simp only [e2] at e; cases e
    | some ds =>
      simp only [e2] at e
      cases e3 : p ds with
      | none => simp only [e3] at e; cases e
      | some r' => simp only [e3] at e; cases e; exact ⟨ds, e3⟩
/-- a comparison as a test -/
theorem pt_cm {op : CmpOp} {r : R2} {f : PyData → PyData → Option Res} {a b : Expr} {oa ob : Opd} (ho : OpR X (compareOp op) r) (ok : Ok2 X.kx r f) (ha : PE X a (SemO X.kx W oa)) (hb : PE X b (SemO X.kx W ob)) (hm : behindInMarks op b = false) (hbool : ∀ d e res, f d e = some res → ∃ k, res = .sh (.bool k)) :
    PT X (.Compare a [op] [b] pos) (SemT X.kx W (tvOf (evPm (pm2 f) [oa, ob]))) := PT.imp (pt_cmpR ho ha hb hm) fun σ H Q h => by
  refine sem2 (semPm (pm2_ok ok) (Q := fun x H' => ∃ k, x = .bl k ∧ Q k H') ?_)
  obtain ⟨al, own, ρ, p, h⟩ := h
  refine ⟨al, own, ρ, p, ?_⟩
  simp only [tvOf] at h
  cases e : evPm (pm2 f) [oa, ob] ρ with
  | stuck => simp only [e] at h
  | exc c ρ' => simp only [e] at h ⊢; exact h
  | ok r' ρ' =>
    simp only [e] at h ⊢
    obtain ⟨ds, e3⟩ := evPm_some e
    obtain ⟨k, rfl⟩ : ∃ k, r' = .sh (.bool k) := by
      match ds, e3 with
      | [d, e'], e3 => exact hbool d e' _ e3
    simp only [Res.d, truthD] at h
    intro v H' own' as p' s' r' z'
    cases r'
    exact ⟨k, rfl, h H' own' p' s'⟩
def tvAnd (a b : Tv) : Tv := fun ρ => match a ρ with
  | .ok true ρ' => b ρ'
  | .ok false ρ' => .ok false ρ'
  | .exc c ρ' => .exc c ρ'
  | .stuck => .stuck
def tvOr (a b : Tv) : Tv := fun ρ => match a ρ with
  | .ok true ρ' => .ok true ρ'
  | .ok false ρ' => b ρ'
  | .exc c ρ' => .exc c ρ'
  | .stuck => .stuck
def tvNot (a : Tv) : Tv := fun ρ => match a ρ with
  | .ok b ρ' => .ok (!b) ρ'
  | .exc c ρ' => .exc c ρ'
  | .stuck => .stuck
theorem semT_after {g : Tv} {Q : Bool → Hp → Prop} {own1 : Own} {ρ1 : Env} {H1 : Hp} (p1 : Pre K al own1 ρ1 σ H1) (s : Stp own ρ H own1 ρ1 H1) (h : match g ρ1 with
    | .ok b ρ' => ∀ H' own', Pre K al own' ρ' σ H' → Stp own ρ H own' ρ' H' → Q b H'
    | .exc c ρ' => ExE K W al own ρ σ H c ρ'
    | .stuck => False) : SemT K W g σ H1 Q := by
  refine ⟨al, own1, ρ1, p1, ?_⟩
  cases e : g ρ1 with
  | stuck => simp only [e] at h
  | exc c ρ' => simp only [e] at h ⊢; exact h.after s
  | ok b ρ' => simp only [e] at h ⊢; exact fun H' own' p' s' => h H' own' p' (s.trans s')
theorem semOr {a b : Tv} {Q : Bool → Hp → Prop} (h : SemT K W (tvOr a b) σ H Q) : tOr (SemT K W a) (SemT K W b) σ H Q := by
  obtain ⟨al, own, ρ, p, h⟩ := h
  refine ⟨al, own, ρ, p, ?_⟩
  simp only [tvOr] at h
  cases e : a ρ with
  | stuck => simp only [e] at h
  | exc c ρ' => simp only [e] at h ⊢; exact h
  | ok k ρ' =>
    cases k with
    | false => simp only [e] at h ⊢; intro H' own' p' s'; rw [if_neg Bool.false_ne_true]; exact semT_after p' s' h
    | true => simp only [e] at h ⊢; intro H' own' p' s'; rw [if_pos trivial]; exact h H' own' p' s'
theorem semNot {a : Tv} {Q : Bool → Hp → Prop} (h : SemT K W (tvNot a) σ H Q) : tNot (SemT K W a) σ H Q := by
  obtain ⟨al, own, ρ, p, h⟩ := h
  refine ⟨al, own, ρ, p, ?_⟩
  simp only [tvNot] at h
  cases e : a ρ with
  | stuck => simp only [e] at h
  | exc c ρ' => simp only [e] at h ⊢; exact h
  | ok k ρ' => simp only [e] at h ⊢; exact h
variable {a b : Expr} {ta tb : Tv} {rest : List Expr}
theorem pw_o1 (ha : PT X a (SemT X.kx W ta)) : PW X (.BoolOp .Or [a] pos) (SemT X.kx W ta) := pw_or1 ha
theorem pw_o (ha : PT X a (SemT X.kx W ta)) (hb : PW X (.BoolOp .Or (b :: rest) pos) (SemT X.kx W tb)) : PW X (.BoolOp .Or (a :: b :: rest) pos) (SemT X.kx W (tvOr ta tb)) := PW.imp (pw_or ha hb) fun _ _ _ h => semOr h
theorem pt_n (ha : PT X a (SemT X.kx W ta)) : PT X (.UnaryOp .Not a pos) (SemT X.kx W (tvNot ta)) := PT.imp (pt_not ha) fun _ _ _ h => semNot h
def boolR : Res → Option Bool
  | .sh (.bool b) => some b
  | _ => none
def evAnd (a b : Ev) : Ev := fun ρ => match a ρ with
  | .ok r ρ' => (match boolR r with
    | some true => b ρ'
    | some false => .ok (.sh (.bool false)) ρ'
    | none => .stuck)
  | .exc c ρ' => .exc c ρ'
  | .stuck => .stuck
def evOr (a b : Ev) : Ev := fun ρ => match a ρ with
  | .ok r ρ' => (match boolR r with
    | some true => .ok (.sh (.bool true)) ρ'
    | some false => b ρ'
    | none => .stuck)
  | .exc c ρ' => .exc c ρ'
  | .stuck => .stuck
def evNot (a : Ev) : Ev := fun ρ => match a ρ with
  | .ok r ρ' => (match boolR r with
    | some k => .ok (.sh (.bool (!k))) ρ'
    | none => .stuck)
  | .exc c ρ' => .exc c ρ'
  | .stuck => .stuck
variable {fa fb : Ev}
def evIf (t : Tv) (a b : Ev) : Ev := fun ρ => match t ρ with
  | .ok true ρ' => a ρ'
  | .ok false ρ' => b ρ'
  | .exc c ρ' => .exc c ρ'
  | .stuck => .stuck
end
end Ev
set_option Elab.async false
set_option linter.all false
set_option autoImplicit false
set_option maxRecDepth 100000
namespace Ev
open PySem PySem.Spec L2
open PyProof.Rows hiding St
noncomputable section
section
variable {K : Kx} {W : WX} {al : Addr → Prop} {own own' : Own} {ρ ρ' : Env} {σ : St} {H H' : Hp} {X : Cx} {pos : Pos}
theorem line_eq : (sizeLine : Nat) = lineN := by rw [sizeLine_eq, lineN_eq]
/-- a result that is a plain value -/
theorem PmQ.val {Z : Addr → Prop} {Q : VK} {d : PyData} {v : V} (q : PmQ K Z H Q (.sh d)) (r : Rp K H v d []) : Q v H := q v H [] .refl r fun _ z => nomatch z
/-- one of the items -/
theorem PmQ.part {Z : Addr → Prop} {Q : VK} {d : PyData} {v : V} {as : List Addr} (q : PmQ K Z H Q (.sh d)) (r : Rp K H v d as) (z : ∀ b ∈ as, Z b) : Q v H := q v H as .refl r fun b hb => .inl (z b hb)
/-- a new list -/
theorem PmQ.lst {Z : Addr → Prop} {Q : VK} {ds : List PyData} {vs : List V} {as : List Addr} (q : PmQ K Z H Q (.ow (.list ds))) (r : RpA K H vs ds as) (z : ∀ b ∈ as, Z b) {p : Addr} (hp : H p = none) : Q (.ref p) (upd H p (.lst vs)) :=
  q _ _ p (Grow.upd hp) hp ⟨rfl, .inl ⟨vs, ds, as, rfl, upd_same, (Grow.upd hp).rpA r, fun b hb => ⟨z b hb, RpA.there _ _ _ r b hb⟩⟩⟩
/-- a new tuple -/
theorem PmQ.tup {Z : Addr → Prop} {Q : VK} {ds : List PyData} {vs : List V} {as : List Addr} (q : PmQ K Z H Q (.sh (.tuple ds))) (r : RpA K H vs ds as) (z : ∀ b ∈ as, Z b) {p : Addr} {o : Obj} (hp : H p = none) (hd : o.dict = none) : Q (.ref p) (upd H p (.frz o (.tup vs))) :=
  q _ _ as (Grow.upd hp) (.tup (.inl (.inr ⟨o, upd_same⟩)) ((Grow.upd hp).rpA r) fun _ => .inl ⟨o, _, upd_same, hd⟩) fun b hb => .inl (z b hb)
def fInt (g : Int → Int → Int) : PyData → PyData → Option Res
  | .int i, .int j => some (.sh (.int (g i j)))
  | _, _ => none
def fIntC (C : Int → Int → Bool) (g : Int → Int → Int) : PyData → PyData → Option Res
  | .int i, .int j => if C i j = true then some (.sh (.int (g i j))) else none
  | _, _ => none
theorem ok_intC {P : Int → Int → Prop} {C : Int → Int → Bool} {g : Int → Int → Int} (hC : ∀ i j, C i j = true → P i j) : Ok2 K (rI P fun i j => .int (g i j)) (fIntC C g) := by
  intro Z H x y d e res Q hx hy h q
  cases d <;> first | (cases h; done) | skip
  cases e <;> first | (cases h; done) | skip
  rename_i i j
  simp only [fIntC] at h
  split at h
  · rename_i c
    cases h
    exact ⟨i, j, hx.int, hy.int, hC i j c, q.val (.int _)⟩
  · cases h
def divB (_ j : Int) : Bool := decide (0 < j) && decide (j.natAbs.log2 < 9000)
theorem divB_ok {i j : Int} (h : divB i j = true) : CDivW i j := by
  unfold divB at h
  simp only [Bool.and_eq_true, decide_eq_true_eq] at h
  exact h
def modB (_ j : Int) : Bool := decide (0 < j)
def powB (i j : Int) : Bool := decide (0 ≤ j) && (cdec (j ≤ 1000000) && decide (i.natAbs < n64))
abbrev fDiv := fIntC divB fun i j => i / j
abbrev fMod := fIntC modB fun i j => i % j
variable {a b : Expr} {oa ob : Opd}
theorem pe_div' (ha : PE X a (SemO X.kx W oa)) (hb : PE X b (SemO X.kx W ob)) : PE X (.BinOp a .FloorDiv b pos) (SemE X.kx W (evPm (pm2 fDiv) [oa, ob])) := pe_bin op_fdivW (ok_intC fun _ _ h => divB_ok h) ha hb
theorem pe_mod' (ha : PE X a (SemO X.kx W oa)) (hb : PE X b (SemO X.kx W ob)) : PE X (.BinOp a .Mod b pos) (SemE X.kx W (evPm (pm2 fMod) [oa, ob])) := pe_bin op_mod (ok_intC fun _ _ h => of_decide_eq_true h) ha hb
def fAdd : PyData → PyData → Option Res
  | .int i, .int j => some (.sh (.int (i + j)))
  | .str x, .str y => if x.length + y.length ≤ lineN then some (.sh (.str (x ++ y))) else none
  | .list xs, .list ys => if xs.length + ys.length ≤ lineN then some (.ow (.list (xs ++ ys))) else none
  | .tuple xs, .tuple ys => if xs.length + ys.length ≤ lineN then some (.sh (.tuple (xs ++ ys))) else none
  | _, _ => none
def rCatR (K : Kx) : R2 := fun x y H Q => ∃ l b xs zs, x = .ref l ∧ y = .ref b ∧ SqL K H l xs ∧ SqL K H b zs ∧ xs.length + zs.length ≤ sizeLine ∧ ∀ p, H p = none → Q (.ref p) (upd H p (.lst (xs ++ zs)))
theorem op_catR : OpR X (binaryOp .Add) (rCatR X.kx) := by
  intro pins s σ H x y v u Q I rx ry h
  obtain ⟨l, b, xs, zs, rfl, rfl, hH, hB, hz, q⟩ := h
  cases rx
  cases ry
  obtain ⟨its, r, p1, _⟩ := I.list hH
  obtain ⟨its2, r2, p2, _⟩ := I.list hB
  have hl := r.length
  have hl2 := r2.length
  obtain ⟨⟨cls, dd, data, sl⟩, ho, hc, n, hd⟩ := id p1.isList
  obtain ⟨⟨cls2, dd2, data2, sl2⟩, ho2, hc2, n2, hd2⟩ := id p2.isList
  simp only at hc hd hc2 hd2
  subst hc hd hc2 hd2
  have ea : its.toArray ++ its2.toArray = (its ++ its2).toArray := by simp
  refine concat_meets ⟨_, ho, rfl⟩ ⟨_, ho2, rfl⟩ noFill_list_add seq_list_add PySem.F.slot_list_add PySem.F.entry_list_add (PySem.F.args_list_add_2 _ _) (list_addW l b its.toArray its2.toArray n n2 dd dd2 sl sl2 (by rw [List.size_toArray, List.size_toArray]; omega)) ⟨ho, ho2, ?_⟩
  rw [ea]
  exact ⟨.ref _, _, I.lnew (t' := s.toks) (r.append r2) (by rw [List.length_append]; omega), rfl, q _ I.fresh⟩
abbrev rAddX (K : Kx) : R2 := fun x y H Q => (rI0 fun i j => .int (i + j)) x y H Q ∨ (∃ i j, x = .str i ∧ y = .str j ∧ i.length + j.length ≤ sizeLine ∧ Q (.str (i ++ j)) H) ∨ rCatR K x y H Q ∨ rCatF K x y H Q
theorem RpA.nil_iff {vs : List V} {ds : List PyData} {as : List Addr} (h : RpA K H vs ds as) : vs = [] ↔ ds = [] := by cases h <;> simp
theorem ok_add : Ok2 K (rAddX K) fAdd := by
  intro Z H x y d e res Q hx hy h q
  cases d with
  | int i =>
    cases e <;> first | (cases h; done) | skip
    cases h
    exact .inl ⟨_, _, hx.int, hy.int, q.val (.int _)⟩
  | str i =>
    cases e <;> first | (cases h; done) | skip
    simp only [fAdd] at h
    split at h
    · cases h
      exact .inr (.inl ⟨_, _, hx.str, hy.str, by rw [line_eq]; assumption, q.val (.str _)⟩)
    · cases h
  | list ds =>
    cases e <;> first | (cases h; done) | skip
    simp only [fAdd] at h
    split at h
    · rename_i hl
      cases h
      obtain ⟨a, vs, as, rfl, h1, r1, z1⟩ := hx.list
      obtain ⟨b, ws, bs, rfl, h2, r2, z2⟩ := hy.list
      exact .inr (.inr (.inl ⟨a, b, vs, ws, rfl, rfl, h1, h2, by rw [line_eq, r1.length, r2.length]; exact hl, fun p hp => q.lst (r1.append r2) (fun b hb => (List.mem_append.mp hb).elim (z1 b) (z2 b)) hp⟩))
    · cases h
  | tuple ds =>
    cases e <;> first | (cases h; done) | skip
    simp only [fAdd] at h
    split at h
    · rename_i hl
      cases h
      obtain ⟨a, vs, as, rfl, h1, r1, z1, n1⟩ := hx.tupleN
      obtain ⟨b, ws, bs, rfl, h2, r2, z2, n2⟩ := hy.tupleN
      refine .inr (.inr (.inr ⟨a, b, vs, ws, rfl, rfl, h1, h2, by rw [line_eq, r1.length, r2.length]; exact hl, fun e => ?_, fun _ e => ?_, fun _ _ p o hp hd => q.tup (r1.append r2) (fun b hb => (List.mem_append.mp hb).elim (z1 b) (z2 b)) hp hd⟩))
      · subst e
        cases r1
        exact q.part (.tup h2 r2 n2) z2
      · subst e
        cases r2
        rw [List.append_nil] at q
        exact q.part (.tup h1 r1 n1) z1
    · cases h
  | none => cases e <;> cases h
  | bool _ => cases e <;> cases h
  | dict _ => cases e <;> cases h
theorem op_addX : OpR X (binaryOp .Add) (rAddX X.kx) := op_add.or (op_add_str.or (op_catR.or op_catF))
theorem pe_add' (ha : PE X a (SemO X.kx W oa)) (hb : PE X b (SemO X.kx W ob)) : PE X (.BinOp a .Add b pos) (SemE X.kx W (evPm (pm2 fAdd) [oa, ob])) := pe_bin op_addX ok_add ha hb
mutual
theorem Rp.dp : ∀ (d : PyData) (v : V) (as : List Addr), Rp K H v d as → d.canLay0 = true → Dp K H v d
  | .none, _, _, h, _ => by cases h; exact .non
  | .bool _, _, _, h, _ => by cases h; exact .bl _
  | .int _, _, _, h, _ => by cases h; exact .int _
  | .str _, _, _, h, _ => by cases h; exact .str _
  | .list ds, _, _, h, c => by cases h with
    | lst h1 h2 => exact .lst (.inl h1) (RpA.dp ds _ _ h2 (by simpa [PyData.canLay0] using c))
    | lsk h1 h2 => exact .lst (.inr h1) (RpA.dp ds _ _ h2 (by simpa [PyData.canLay0] using c))
  | .tuple ds, _, _, h, c => by cases h with | tup h1 h2 => exact .tup h1 (RpA.dp ds _ _ h2 (by simpa [PyData.canLay0] using c))
  | .dict _, _, _, _, c => by simp [PyData.canLay0] at c
theorem RpA.dp : ∀ (ds : List PyData) (vs : List V) (as : List Addr), RpA K H vs ds as → PyData.canLayAll0 ds = true → DpAll K H vs ds
  | [], _, _, h, _ => by cases h; exact .nil
  | d :: ds, _, _, h, c => by
    cases h with
    | cons h1 h2 =>
      simp only [PyData.canLayAll0, Bool.and_eq_true] at c
      exact .cons (Rp.dp d _ _ h1 c.1) (RpA.dp ds _ _ h2 c.2)
end
def shp (d : PyData) : Bool := SeqAt.shaped d
theorem Vw.dp {Z : Addr → Prop} {v : V} {d : PyData} (h : Vw K H Z v d) (s : shp d = true) : Dp K H v d := by
  obtain ⟨as, r⟩ := h.rp
  exact Rp.dp d v as r (SeqAt.canLay_of_shaped s)
def fEq (d e : PyData) : Option Res := if (shp d && shp e) = true then some (.sh (.bool (PyData.eqv d e))) else none
def fNe (d e : PyData) : Option Res := if (shp d && shp e) = true then some (.sh (.bool (!PyData.eqv d e))) else none
theorem ok_eq : Ok2 K (rEqD K) fEq := by
  intro Z H x y d e res Q hx hy h q
  simp only [fEq] at h
  split at h
  · rename_i c
    cases h
    obtain ⟨c1, c2⟩ := Bool.and_eq_true_iff.mp c
    exact ⟨d, e, hx.dp c1, hy.dp c2, c1, c2, q.val (.bl _)⟩
  · cases h
theorem ok_ne : Ok2 K (rNeD K) fNe := by
  intro Z H x y d e res Q hx hy h q
  simp only [fNe] at h
  split at h
  · rename_i c
    cases h
    obtain ⟨c1, c2⟩ := Bool.and_eq_true_iff.mp c
    exact ⟨d, e, hx.dp c1, hy.dp c2, c1, c2, q.val (.bl _)⟩
  · cases h
theorem fEq_bool (d e : PyData) (res : Res) (h : fEq d e = some res) : ∃ k, res = .sh (.bool k) := by
  simp only [fEq] at h
  split at h
  · cases h; exact ⟨_, rfl⟩
  · cases h
theorem fNe_bool (d e : PyData) (res : Res) (h : fNe d e = some res) : ∃ k, res = .sh (.bool k) := by
  simp only [fNe] at h
  split at h
  · cases h; exact ⟨_, rfl⟩
  · cases h
def fCmp (g : Int → Int → Bool) : PyData → PyData → Option Res
  | .int i, .int j => some (.sh (.bool (g i j)))
  | _, _ => none
def isNoneD : PyData → Bool
  | .none => true
  | _ => false
def fIs : PyData → PyData → Option Res
  | d, .none => some (.sh (.bool (isNoneD d)))
  | _, _ => none
def fIsN : PyData → PyData → Option Res
  | d, .none => some (.sh (.bool (!isNoneD d)))
  | _, _ => none
theorem Rp.isNone {v : V} {d : PyData} {as : List Addr} (h : Rp K H v d as) : decide (v = V.non) = isNoneD d := by cases h <;> simp [isNoneD]
end
end
end Ev
set_option Elab.async false
set_option linter.all false
set_option autoImplicit false
set_option maxRecDepth 100000
namespace Ev
open PySem PySem.Spec L2
open PyProof.Rows hiding St
noncomputable section
inductive OutS where
  | next (ρ : Env) | ret (r : Res) (ρ : Env) | brk (ρ : Env) | cont (ρ : Env) | exc (c : Str) (ρ : Env) | stuck
abbrev EvS := Env → OutS
def NxS (K : Kx) (al : Addr → Prop) (own : Own) (ρ : Env) (H : Hp) (N : St → Hp → Prop) (ρ' : Env) : Prop :=
  ∀ σ' H' own', Pre K al own' ρ' σ' H' → Stp own ρ H own' ρ' H' → N σ' H'
def RtS (K : Kx) (al : Addr → Prop) (own : Own) (ρ : Env) (H : Hp) (Q : VK) : Res → Env → Prop
  | .sh d, ρ' => ∀ v σ' H' own' as, Pre K al own' ρ' σ' H' → Stp own ρ H own' ρ' H' → Rp K H' v d as → (∀ b ∈ as, Zf al own' b) → Q v H'
  | .ow d, ρ' => ∀ v σ' H' own' a, Pre K (fun b => al b ∧ b ≠ a) own' ρ' σ' H' → Stp own ρ H own' ρ' H' → OwV K H' (Zf (fun b => al b ∧ b ≠ a) own') v d a → al a → Free own' a → (H a = none ∨ Wr own ρ a) → Q v H'
def ExS (K : Kx) (W : WX) (al : Addr → Prop) (own : Own) (ρ : Env) (H : Hp) (c : Str) (ρ' : Env) : Prop :=
  ∀ σ' H' own', Pre K al own' ρ' σ' H' → Stp own ρ H own' ρ' H' → W (.ref (He.ga K c)) none σ' H'
def OkS (K : Kx) (W : WX) (al : Addr → Prop) (own : Own) (ρ : Env) (H : Hp) (D : Ends) : OutS → Prop
  | .next ρ' => NxS K al own ρ H D.nx ρ'
  | .brk ρ' => NxS K al own ρ H D.bk ρ'
  | .cont ρ' => NxS K al own ρ H D.ct ρ'
  | .ret r ρ' => RtS K al own ρ H D.rt r ρ'
  | .exc c ρ' => ExS K W al own ρ H c ρ'
  | .stuck => False
def SemS (K : Kx) (W : WX) (f : EvS) : TS := fun D σ H => ∃ al own ρ, Pre K al own ρ σ H ∧ OkS K W al own ρ H D (f ρ)
section
variable {K : Kx} {W : WX} {al : Addr → Prop} {own own' own1 : Own} {ρ ρ' ρ1 : Env} {σ σ1 : St} {H H' H1 : Hp} {X : Cx} {pos : Pos} {D : Ends}
theorem NxS.after {N : St → Hp → Prop} (s : Stp own ρ H own1 ρ1 H1) (h : NxS K al own ρ H N ρ') : NxS K al own1 ρ1 H1 N ρ' := fun σ' H' own' p s' => h σ' H' own' p (s.trans s')
theorem RtS.after {Q : VK} {r : Res} (s : Stp own ρ H own1 ρ1 H1) (h : RtS K al own ρ H Q r ρ') : RtS K al own1 ρ1 H1 Q r ρ' := by
  cases r with
  | sh d => exact fun v σ' H' own' as p s' => h v σ' H' own' as p (s.trans s')
  | ow d => exact fun v σ' H' own' a p s' o ha hf hw => h v σ' H' own' a p (s.trans s') o ha hf (s.src hw)
theorem ExS.after {c : Str} (s : Stp own ρ H own1 ρ1 H1) (h : ExS K W al own ρ H c ρ') : ExS K W al own1 ρ1 H1 c ρ' := fun σ' H' own' p s' => h σ' H' own' p (s.trans s')
theorem OkS.after {o : OutS} (s : Stp own ρ H own1 ρ1 H1) (h : OkS K W al own ρ H D o) : OkS K W al own1 ρ1 H1 D o := by
  cases o with
  | next r => exact NxS.after s h
  | brk r => exact NxS.after s h
  | cont r => exact NxS.after s h
  | ret r r' => exact RtS.after s h
  | exc c r => exact ExS.after s h
  | stuck => exact h
theorem ExS.toE {c : Str} (h : ExS K W al own ρ H c ρ') : ExE K W al own ρ σ H c ρ' := fun H' own' p s => h σ H' own' p s
def sNil : EvS := fun ρ => .next ρ
def sSeq (a b : EvS) : EvS := fun ρ => match a ρ with
  | .next ρ' => b ρ'
  | o => o
theorem semSeq {f g : EvS} (h : SemS K W (sSeq f g) D σ H) : tSeq (SemS K W f) (SemS K W g) D σ H := by
  obtain ⟨al, own, ρ, p, h⟩ := h
  refine ⟨al, own, ρ, p, ?_⟩
  simp only [sSeq] at h
  cases e : f ρ with
  | next ρ' => simp only [e] at h; exact fun σ' H' own' p' s' => ⟨al, own', ρ', p', h.after s'⟩
  | _ => simp only [e] at h; exact h
theorem s_nil : PSs X [] (SemS X.kx W sNil) := PSs.imp pss_nil fun D σ H ⟨al, own, ρ, p, h⟩ => h σ H own p .refl
theorem s_cons {st : Stmt} {rest : List Stmt} {f g : EvS} (h1 : PS X st (SemS X.kx W f)) (h2 : PSs X rest (SemS X.kx W g)) : PSs X (st :: rest) (SemS X.kx W (sSeq f g)) := PSs.imp (pss_cons h1 h2) fun _ _ _ h => semSeq h
theorem s_one {st : Stmt} {f : EvS} (h1 : PS X st (SemS X.kx W f)) : PSs X [st] (SemS X.kx W f) := pss_one h1
def sRet (f : Ev) : EvS := fun ρ => match f ρ with
  | .ok r ρ' => .ret r ρ'
  | .exc c ρ' => .exc c ρ'
  | .stuck => .stuck
theorem RtS.toE {Q : VK} {r : Res} (h : RtS K al own ρ H Q r ρ') : OkE K al own ρ σ H Q r ρ' := by
  cases r with
  | sh d => exact fun v H' own' as p s => h v σ H' own' as p s
  | ow d => exact fun v H' own' a p s => h v σ H' own' a p s
theorem s_ret {e : Expr} {f : Ev} (he : PE X e (SemE X.kx W f)) : PS X (.Return (some e) pos) (SemS X.kx W (sRet f)) := PS.imp (ps_ret he) fun D σ H ⟨al, own, ρ, p, h⟩ => by
  refine ⟨al, own, ρ, p, ?_⟩
  simp only [sRet] at h
  cases e : f ρ with
  | stuck => simp only [e] at h; exact h
  | exc c ρ' => simp only [e] at h ⊢; exact ExS.toE h
  | ok r ρ' => simp only [e] at h ⊢; exact RtS.toE h
/-- return name: what the name owns is handed on -/
def evMv (i : Nat) : Ev := fun ρ => match ρ[i]? with
  | some (some (.sh d)) => .ok (.sh d) ρ
  | some (some (.ow d)) => .ok (.ow d) (ρ.set i none)
  | _ => .stuck
def sIf (t : Tv) (a b : EvS) : EvS := fun ρ => match t ρ with
  | .ok true ρ' => a ρ'
  | .ok false ρ' => b ρ'
  | .exc c ρ' => .exc c ρ'
  | .stuck => .stuck
theorem s_if {c : Expr} {a b : List Stmt} {t : Tv} {f g : EvS} (hc : PT X c (SemT X.kx W t)) (ha : PSs X a (SemS X.kx W f)) (hb : PSs X b (SemS X.kx W g)) : PS X (.If c a b pos) (SemS X.kx W (sIf t f g)) := PS.imp (ps_if hc ha hb) fun D σ H ⟨al, own, ρ, p, h⟩ => by
  refine ⟨al, own, ρ, p, ?_⟩
  simp only [sIf] at h
  cases e : t ρ with
  | stuck => simp only [e] at h; exact h
  | exc c ρ' => simp only [e] at h ⊢; exact ExS.toE h
  | ok k ρ' =>
    cases k with
    | true => simp only [e] at h ⊢; intro H' own' p' s'; rw [if_pos trivial]; exact ⟨al, own', ρ', p', h.after s'⟩
    | false => simp only [e] at h ⊢; intro H' own' p' s'; rw [if_neg Bool.false_ne_true]; exact ⟨al, own', ρ', p', h.after s'⟩
/-- an expression whose value is dropped -/
def sEx (f : Ev) : EvS := fun ρ => match f ρ with
  | .ok _ ρ' => .next ρ'
  | .exc c ρ' => .exc c ρ'
  | .stuck => .stuck
def Sl.free : Option Sl → Bool
  | some (.io _) => false
  | some (.lk _) => false
  | _ => true
def Res.sl : Res → Sl
  | .sh d => .sh d
  | .ow d => .ow d
/-- slot i gets r; a parameter that is the caller's, a list that is walked may not be stored over -/
def putR (i : Nat) (r : Res) (ρ : Env) : Option Env := match ρ[i]? with
  | some s => if Sl.free s = true then some (ρ.set i (some r.sl)) else none
  | none => none
def Own.put (own : Own) (i : Nat) (a : Addr) : Own := fun j => if j = i then some a else own j
theorem Own.put_same {i : Nat} {a : Addr} : own.put i a i = some a := if_pos rfl
theorem Own.put_ne {i j : Nat} {a : Addr} (h : j ≠ i) : own.put i a j = own j := if_neg h
theorem Stp.slot {i : Nat} {x : Option Sl} {s : Option Sl} (e : ρ[i]? = some s) (hf : Sl.free s = true) (hw : ∀ j a, own' j = some a → (∃ k, own k = some a) ∨ H a = none) (hr : ∀ j, j ≠ i → own' j = own j)
    (hx : ∀ y, x = some y → y.wr = true → ∀ a, own' i = some a → Wr own ρ a ∨ H a = none) : Stp own ρ H own' (ρ.set i x) H :=
  ⟨fun _ _ q _ _ => q, fun _ q => q, hw, fun b ⟨j, s', q1, q2, q3⟩ => by
      rcases getElem?_set_cases q2 with ⟨rfl, e2, _⟩ | ⟨hj, e2⟩
      · exact hx s' e2.symm q3 b q1
      · exact .inl ⟨j, s', by rw [← hr j hj]; exact q1, e2, q3⟩,
    fun j d q => by
      have hj : j ≠ i := fun z => by subst z; rw [e] at q; cases q; cases hf
      exact ⟨by rw [List.getElem?_set_ne (Ne.symm hj)]; exact q, hr j hj⟩,
    fun j d q => by
      have hj : j ≠ i := fun z => by subst z; rw [e] at q; cases q; cases hf
      exact ⟨⟨d, by rw [List.getElem?_set_ne (Ne.symm hj)]; exact q⟩, hr j hj⟩, List.length_set ..⟩
/-- a plain value is stored -/
theorem put_sh {i : Nat} {d : PyData} {v : V} {as : List Addr} (p : Pre K al own ρ σ H) (e : putR i (.sh d) ρ = some ρ') (r : Rp K H v d as) (z : ∀ b ∈ as, Zf al own b) :
    Pre K al (own.drop i) ρ' (σ.set i (some v)) H ∧ Stp own ρ H (own.drop i) ρ' H := by
  simp only [putR] at e
  cases q : ρ[i]? with
  | none => simp only [q] at e; cases e
  | some s =>
    simp only [q] at e
    split at e
    · rename_i hf
      cases e
      refine ⟨⟨p.tb, p.fr, fun j k b e1 e2 => p.inj j k b (Own.drop_some e1).1 (Own.drop_some e2).1, fun j b e1 => p.mu j b (Own.drop_some e1).1, by rw [List.length_set, List.length_set]; exact p.len, fun j s' e1 => ?_⟩,
        Stp.slot q hf (fun j b q => .inl ⟨j, (Own.drop_some q).1⟩) (fun j hj => Own.drop_ne hj) fun y hy hw => by cases hy; cases hw⟩
      rcases getElem?_set_cases e1 with ⟨rfl, e2, hl⟩ | ⟨hj, e2⟩
      · cases e2
        exact ⟨v, by rw [List.getElem?_set_self (by rw [← p.len]; exact hl)], as, r, fun b hb => (z b hb).drop⟩
      · obtain ⟨v', h1, h2⟩ := p.sl j s' e2
        exact ⟨v', by rw [List.getElem?_set_ne (Ne.symm hj)]; exact h1, h2.drop hj⟩
    · cases e
/-- a value of its own is stored -/
theorem put_ow {i : Nat} {d : PyData} {v : V} {a : Addr} (p : Pre K (fun b => al b ∧ b ≠ a) own ρ σ H) (e : putR i (.ow d) ρ = some ρ') (o : OwV K H (Zf (fun b => al b ∧ b ≠ a) own) v d a) (ha : al a) (hf' : Free own a) :
    Pre K al (own.put i a) ρ' (σ.set i (some v)) H := by
  simp only [putR] at e
  cases q : ρ[i]? with
  | none => simp only [q] at e; cases e
  | some s =>
    simp only [q] at e
    split at e
    · rename_i hf
      cases e
      have zz : ∀ b, Zf (fun b => al b ∧ b ≠ a) own b → Zf al (own.put i a) b := fun b hb => ⟨hb.1.1, fun j e1 => by
        by_cases hj : j = i
        · rw [hj, Own.put_same] at e1; exact hb.1.2 (Option.some.inj e1).symm
        · rw [Own.put_ne hj] at e1; exact hb.2 j e1⟩
      refine ⟨p.tb, fun b hb => (p.fr b hb).1, fun j k b e1 e2 => ?_, fun j b e1 => ?_, by rw [List.length_set, List.length_set]; exact p.len, fun j s' e1 => ?_⟩
      · by_cases hj : j = i
        · rw [hj, Own.put_same] at e1; cases e1
          by_cases hk : k = i
          · rw [hj, hk]
          · rw [Own.put_ne hk] at e2; exact absurd e2 (hf' k)
        · rw [Own.put_ne hj] at e1
          by_cases hk : k = i
          · rw [hk, Own.put_same] at e2; cases e2; exact absurd e1 (hf' j)
          · rw [Own.put_ne hk] at e2; exact p.inj j k b e1 e2
      · by_cases hj : j = i
        · rw [hj, Own.put_same] at e1; cases e1
          exact o.at
        · rw [Own.put_ne hj] at e1; exact p.mu j b e1
      · rcases getElem?_set_cases e1 with ⟨rfl, e2, hl⟩ | ⟨hj, e2⟩
        · cases e2
          exact ⟨v, by rw [List.getElem?_set_self (by rw [← p.len]; exact hl)], a, Own.put_same, o.mono zz, ha⟩
        · obtain ⟨v', h1, h2⟩ := p.sl j s' e2
          refine ⟨v', by rw [List.getElem?_set_ne (Ne.symm hj)]; exact h1, ?_⟩
          cases s' with
          | sh d => obtain ⟨as, r, z⟩ := h2; exact ⟨as, r, fun b hb => zz b (z b hb)⟩
          | ow d => obtain ⟨x, q1, r, z⟩ := h2; exact ⟨x, by rw [Own.put_ne hj]; exact q1, r.mono zz, z.1⟩
          | io d => obtain ⟨x, q1, r⟩ := h2; exact ⟨x, by rw [Own.put_ne hj]; exact q1, r.mono zz⟩
          | lk d => obtain ⟨x, q1, r⟩ := h2; exact ⟨x, by rw [Own.put_ne hj]; exact q1, r.mono zz⟩
          | ex x c => exact h2
    · cases e
theorem put_ow_stp {own0 : Own} {ρ0 : Env} {H0 : Hp} {i : Nat} {d : PyData} {a : Addr} (s : Stp own0 ρ0 H0 own ρ H) (e : putR i (.ow d) ρ = some ρ') (src : H0 a = none ∨ Wr own0 ρ0 a) : Stp own0 ρ0 H0 (own.put i a) ρ' H := by
  simp only [putR] at e
  cases q : ρ[i]? with
  | none => simp only [q] at e; cases e
  | some t =>
    simp only [q] at e
    split at e
    · rename_i hf
      cases e
      have ni : ∀ j x, ρ[j]? = some (some x) → Sl.free (some x) = false → j ≠ i := fun j x e1 e2 e3 => by
        subst e3; rw [q] at e1; cases e1; rw [hf] at e2; cases e2
      refine ⟨s.keep, s.dom, fun j b e1 => ?_, fun b ⟨j, x, e1, e2, e3⟩ => ?_, fun j x e1 => ?_, fun j x e1 => ?_, by rw [List.length_set]; exact s.ln⟩
      · by_cases hj : j = i
        · rw [hj, Own.put_same] at e1; cases e1
          exact src.elim .inr fun ⟨k, _, e2, _⟩ => .inl ⟨k, e2⟩
        · rw [Own.put_ne hj] at e1; exact s.nw j b e1
      · by_cases hj : j = i
        · rw [hj, Own.put_same] at e1; cases e1
          exact src.elim .inr .inl
        · rw [Own.put_ne hj] at e1
          rw [List.getElem?_set_ne (Ne.symm hj)] at e2
          exact s.fz b ⟨j, x, e1, e2, e3⟩
      · obtain ⟨q1, q2⟩ := s.lk j x e1
        have hj := ni j _ q1 rfl
        exact ⟨by rw [List.getElem?_set_ne (Ne.symm hj)]; exact q1, by rw [Own.put_ne hj]; exact q2⟩
      · obtain ⟨⟨y, q1⟩, q2⟩ := s.io j x e1
        have hj := ni j _ q1 rfl
        exact ⟨⟨y, by rw [List.getElem?_set_ne (Ne.symm hj)]; exact q1⟩, by rw [Own.put_ne hj]; exact q2⟩
    · cases e
def sAsg (i : Nat) (f : Ev) : EvS := fun ρ => match f ρ with
  | .ok r ρ' => (match putR i r ρ' with
    | some ρ2 => .next ρ2
    | none => .stuck)
  | .exc c ρ' => .exc c ρ'
  | .stuck => .stuck
theorem semAsg {i : Nat} {f : Ev} (h : SemS K W (sAsg i f) D σ H) : tAsg (SemE K W f) (gName i) D σ H := by
  obtain ⟨al, own, ρ, p, h⟩ := h
  refine ⟨al, own, ρ, p, ?_⟩
  simp only [sAsg] at h
  cases e : f ρ with
  | stuck => simp only [e] at h; exact h
  | exc c ρ' => simp only [e] at h ⊢; exact ExS.toE h
  | ok r ρ' =>
    simp only [e] at h ⊢
    cases q : putR i r ρ' with
    | none => simp only [q] at h; exact h.elim
    | some ρ2 =>
      simp only [q] at h
      cases r with
      | sh d =>
        intro v H' own' as p' s' r' z'
        obtain ⟨p2, s2⟩ := put_sh p' q r' z'
        exact h _ H' _ p2 (s'.trans s2)
      | ow d =>
        intro v H' own' a p' s' o ha hf hw
        exact h _ H' _ (put_ow p' q o ha hf) (put_ow_stp s' q hw)
theorem s_asg {i : Nat} {x : Str} {e : Expr} {f : Ev} {pos' : Pos} (hN : X.N.Nodup) (hi : X.N[i]? = some x) (hx : Loc X.env.scope x) (he : PE X e (SemE X.kx W f)) (hs : swapsWith e (some (.Name x pos')) pos.line X.env = pure false := by rfl)
    (hf : X.fn x = true ∨ X.env.scope.names.lookup x = some .local := by first | exact .inl rfl | exact .inr rfl | assumption) : PS X (.Assign [.Name x pos'] e pos) (SemS X.kx W (sAsg i f)) := PS.imp (ps_set hN hi hx he hs hf) fun _ _ _ h => semAsg h
end
end
end Ev
set_option Elab.async false
set_option linter.all false
set_option autoImplicit false
set_option maxRecDepth 100000
namespace Ev
open PySem PySem.Spec L2
open PyProof.Rows hiding St
noncomputable section
section
variable {K : Kx} {W : WX} {al : Addr → Prop} {own own' own1 : Own} {ρ ρ' ρ1 : Env} {σ σ1 : St} {H H' H1 : Hp} {X : Cx} {pos : Pos} {D : Ends}
/-- the same mode with other data -/
def Sl.to : Sl → PyData → Sl
  | .sh _, d => .sh d
  | .ow _, d => .ow d
  | .io _, d => .io d
  | .lk _, d => .lk d
  | .ex a c, _ => .ex a c
theorem upd_rp {a : Addr} {o o' : HO} (ha : H a = some o) (hm : Mut (some o)) {v : V} {d : PyData} {as : List Addr} (r : Rp K H v d as) (n : ∀ b ∈ as, b ≠ a) : Rp K (upd H a o') v d as :=
  Rp.keep (W := fun b => b = a) (fun b x e w _ => by rw [upd_ne w]; exact e) (fun b e => ⟨o, by rw [e]; exact ha, hm⟩) d v as r n
theorem upd_rpA {a : Addr} {o o' : HO} (ha : H a = some o) (hm : Mut (some o)) {v : List V} {d : List PyData} {as : List Addr} (r : RpA K H v d as) (n : ∀ b ∈ as, b ≠ a) : RpA K (upd H a o') v d as :=
  RpA.keep (W := fun b => b = a) (fun b x e w _ => by rw [upd_ne w]; exact e) (fun b e => ⟨o, by rw [e]; exact ha, hm⟩) d v as r n
theorem upd_rpK {a : Addr} {o o' : HO} (ha : H a = some o) (hm : Mut (some o)) {v : List (PyData × V × V)} {d : List (PyData × PyData)} {as : List Addr} (r : RpK K H v d as) (n : ∀ b ∈ as, b ≠ a) : RpK K (upd H a o') v d as :=
  RpK.keep (W := fun b => b = a) (fun b x e w _ => by rw [upd_ne w]; exact e) (fun b e => ⟨o, by rw [e]; exact ha, hm⟩) d v as r n
theorem OwV.upd_other {a x : Addr} {o o' : HO} (ha : H a = some o) (hm : Mut (some o)) {Z : Addr → Prop} {v : V} {d : PyData} (h : OwV K H Z v d x) (hx : x ≠ a) (hz : ∀ b, Z b → b ≠ a) : OwV K (upd H a o') Z v d x := by
  obtain ⟨e, ⟨vs, ds, as, h1, h2, h3, h4⟩ | ⟨o, vs, ds, as, h1, h2, h0, h3, h4⟩⟩ := h
  · exact ⟨e, .inl ⟨vs, ds, as, h1, by rw [upd_ne hx]; exact h2, upd_rpA ha hm h3 fun b hb => hz b (h4 b hb), h4⟩⟩
  · exact ⟨e, .inr ⟨o, vs, ds, as, h1, by rw [upd_ne hx]; exact h2, h0, upd_rpK ha hm h3 fun b hb => hz b (h4 b hb), h4⟩⟩
/-- slot i's own object is changed -/
theorem Pre.mutT (p : Pre K al own ρ σ H) {i : Nat} {s : Sl} {a : Addr} {o o' : HO} {v : V} {d : PyData} (e : ρ[i]? = some (some s)) (hw : s.wr = true) (ei : own i = some a) (hv : σ[i]? = some (some v)) (ha : H a = some o) (hm : Mut (some o)) (hm' : Mut (some o'))
    (hs : s.wr = true → (∃ d', s = .ow d') → al a) (n : OwV K (upd H a o') (Zf al own) v d a) (tb' : TabsI K (upd H a o')) : Pre K al own (ρ.set i (some (s.to d))) σ (upd H a o') ∧ Stp own ρ H own (ρ.set i (some (s.to d))) (upd H a o') := by
  have zz : ∀ b, Zf al own b → b ≠ a := fun b z q => z.2 i (q ▸ ei)
  have hlt : i < ρ.length := by
    have := List.getElem?_eq_some_iff.mp e
    exact this.1
  have dm : ∀ b, upd H a o' b = none → H b = none := fun b q => by
    by_cases hb : b = a
    · rw [hb, upd_same] at q; cases q
    · rw [upd_ne hb] at q; exact q
  refine ⟨⟨tb', fun b q => p.fr b (dm b q), p.inj, fun j b q => ?_, by rw [List.length_set]; exact p.len, fun j s' q => ?_⟩,
    ⟨fun b x q w _ => ?_, dm, fun j b q => .inl ⟨j, q⟩, fun b ⟨j, x, q1, q2, q3⟩ => ?_, fun j x q => ?_, fun j x q => ?_, List.length_set ..⟩⟩
  · by_cases hb : b = a
    · rw [hb, upd_same]; exact ⟨o', rfl, hm'⟩
    · rw [upd_ne hb]; exact p.mu j b q
  · rcases getElem?_set_cases q with ⟨rfl, e2, _⟩ | ⟨hj, e2⟩
    · cases e2
      refine ⟨v, hv, ?_⟩
      cases s with
      | sh d' => cases hw
      | ow d' => exact ⟨a, ei, n, hs rfl ⟨d', rfl⟩⟩
      | io d' => exact ⟨a, ei, n⟩
      | lk d' => cases hw
      | ex a c => cases hw
    · obtain ⟨v', h1, h2⟩ := p.sl j s' e2
      refine ⟨v', h1, ?_⟩
      have ne : ∀ {x}, own j = some x → x ≠ a := fun {x} q q2 => hj (p.inj j i a (q2 ▸ q) ei)
      cases s' with
      | sh d => obtain ⟨as, r, z⟩ := h2; exact ⟨as, upd_rp ha hm r fun b hb => zz b (z b hb), z⟩
      | ow d => obtain ⟨x, q1, r, z⟩ := h2; exact ⟨x, q1, r.upd_other ha hm (ne q1) zz, z⟩
      | io d => obtain ⟨x, q1, r⟩ := h2; exact ⟨x, q1, r.upd_other ha hm (ne q1) zz⟩
      | lk d => obtain ⟨x, q1, r⟩ := h2; exact ⟨x, q1, r.upd_other ha hm (ne q1) zz⟩
      | ex x c => exact h2
  · have hb : b ≠ a := fun q2 => w ⟨i, s, q2 ▸ ei, e, hw⟩
    rw [upd_ne hb]; exact q
  · rcases getElem?_set_cases q2 with ⟨rfl, e2, _⟩ | ⟨hj, e2⟩
    · exact .inl ⟨_, s, q1, e, hw⟩
    · exact .inl ⟨j, x, q1, e2, q3⟩
  · have hj : j ≠ i := fun z => by
      subst z; rw [e] at q; cases q; cases hw
    exact ⟨by rw [List.getElem?_set_ne (Ne.symm hj)]; exact q, rfl⟩
  · by_cases hj : j = i
    · subst hj
      rw [e] at q
      cases q
      exact ⟨⟨d, by rw [List.getElem?_set_self hlt]; rfl⟩, rfl⟩
    · exact ⟨⟨x, by rw [List.getElem?_set_ne (Ne.symm hj)]; exact q⟩, rfl⟩
def isL : PyData → Bool
  | .list _ => true
  | _ => false
def evMut (i : Nat) (fs : List Ev) (m : List PyData → List PyData → Option (List PyData × PyData)) : Ev := fun ρ => match ρ[i]? with
  | some (some s0) => if (s0.wr && isL s0.d) = true then (match evOs (fs.map .ex) ρ with
    | .ok as ρ1 => (match ρ1[i]?, looks ρ1 as with
      | some (some s), some es => if s.wr = true then (match s.d with
        | .list ds => (match m ds es with
          | some (ds', y) => .ok (.sh y) (ρ1.set i (some (s.to (.list ds'))))
          | none => .stuck)
        | _ => .stuck) else .stuck
      | _, _ => .stuck)
    | .exc c ρ1 => .exc c ρ1
    | .stuck => .stuck) else .stuck
  | _ => .stuck
theorem Pre.mut (p : Pre K al own ρ σ H) {i : Nat} {s : Sl} {a : Addr} {o o' : HO} {v : V} {d : PyData} (e : ρ[i]? = some (some s)) (hw : s.wr = true) (ei : own i = some a) (hv : σ[i]? = some (some v)) (ha : H a = some o) (hm : Mut (some o)) (hm' : Mut (some o'))
    (hs : s.wr = true → (∃ d', s = .ow d') → al a) (n : OwV K (upd H a o') (Zf al own) v d a) (io : InsOk (some o) o' := by exact fun _ _ _ z => nomatch z) : Pre K al own (ρ.set i (some (s.to d))) σ (upd H a o') ∧ Stp own ρ H own (ρ.set i (some (s.to d))) (upd H a o') :=
  p.mutT e hw ei hv ha hm hm' hs n (p.tb.upd (fun x e => by rw [ha] at e; cases e; exact hm) (by rw [ha]; exact io))
theorem ArgsOk.free (p : Pre K al own ρ σ H) : ∀ {as : List Arg} {vs : List V} {es : List PyData}, (∀ a ∈ as, ∃ d, a = .sh d) → ArgsOk K H al own σ as vs → Ev.looks ρ as = some es → ∃ cs, RpA K H vs es cs ∧ ∀ b ∈ cs, Zf al own b
  | [], [], _, _, _, h => by simp [Ev.looks] at h; subst h; exact ⟨[], .nil, fun _ z => nomatch z⟩
  | [], _ :: _, _, _, h, _ => h.elim
  | _ :: _, [], _, _, h, _ => h.elim
  | a :: as, v :: vs, es, hs, ⟨h1, h2⟩, h => by
    obtain ⟨d, rfl⟩ := hs a (by simp)
    simp only [Ev.looks, look] at h
    cases q : Ev.looks ρ as with
    | none => simp [q] at h
    | some ds =>
      simp [q] at h
      subst h
      obtain ⟨bs, r, z⟩ := h1
      obtain ⟨cs, r2, z2⟩ := ArgsOk.free p (fun a ha => hs a (by simp [ha])) h2 q
      exact ⟨_, .cons r r2, fun b hb => (List.mem_append.mp hb).elim (z b) (z2 b)⟩
theorem evOs_sh : ∀ {fs : List Ev} {ρ ρ' : Env} {as : List Arg}, evOs (fs.map .ex) ρ = .ok as ρ' → ∀ a ∈ as, ∃ d, a = .sh d
  | [], ρ, ρ', as, h => by simp [evOs] at h; obtain ⟨rfl, _⟩ := h; exact fun _ z => nomatch z
  | f :: fs, ρ, ρ', as, h => by
    simp only [List.map_cons, evOs, evO] at h
    cases e : f ρ with
    | stuck => simp only [e] at h; cases h
    | exc c ρ1 => simp only [e] at h; cases h
    | ok r ρ1 =>
      simp only [e] at h
      cases q : evOs (fs.map .ex) ρ1 with
      | stuck => simp only [q] at h; cases h
      | exc c ρ2 => simp only [q] at h; cases h
      | ok as' ρ2 =>
        simp only [q] at h
        cases h
        intro a ha
        rcases List.mem_cons.mp ha with rfl | ha
        · exact ⟨_, rfl⟩
        · exact evOs_sh q a ha
/-- name[k] = e -/
def mSet (ds es : List PyData) : Option (List PyData × PyData) := match es with
  | [d, .int k] => if 0 ≤ k ∧ k < ds.length then some (ds.set k.toNat d, .none) else none
  | _ => none
theorem RpA.set {Z : Addr → Prop} {vs : List V} {ds : List PyData} {as : List Addr} (r : RpA K H vs ds as) (z : ∀ b ∈ as, Z b) (k : Nat) {v : V} {d : PyData} {cs : List Addr} (r2 : Rp K H v d cs) (z2 : ∀ b ∈ cs, Z b) : ∃ bs, RpA K H (vs.set k v) (ds.set k d) bs ∧ ∀ b ∈ bs, Z b := by
  refine RpA.of (by rw [List.length_set, List.length_set, r.length]) fun i v' d' e1 e2 => ?_
  rcases getElem?_set_cases e1 with ⟨rfl, rfl, _⟩ | ⟨hi, e3⟩
  · rcases getElem?_set_cases e2 with ⟨_, rfl, _⟩ | ⟨hi, _⟩
    · exact ⟨cs, r2, z2⟩
    · exact absurd rfl hi
  · rcases getElem?_set_cases e2 with ⟨h, _, _⟩ | ⟨_, e4⟩
    · exact absurd h hi
    · obtain ⟨w, bs, q1, q2, q3⟩ := r.get e4
      rw [e3] at q1
      cases q1
      exact ⟨bs, q2, fun b hb => z b (q3 b hb)⟩
def sSet (i : Nat) (fe fk : Ev) : EvS := sEx (evMut i [fe, fk] mSet)
theorem pa_s0 : PA X [] (SemOs X.kx W []) := PA.imp pa_nil fun _ _ _ h => semOs_nil h
theorem pa_s {e : Expr} {es : List Expr} {o : Opd} {os : List Opd} (ha : PE X e (SemO X.kx W o)) (hr : PA X es (SemOs X.kx W os)) (hs : starEach (e :: es) X.env = (false, eval e X.env) :: starEach es X.env := by rfl) : PA X (e :: es) (SemOs X.kx W (o :: os)) :=
  PA.imp (pa_cons ha hr hs) fun _ _ _ h => semOs_cons h
end
end
end Ev
set_option Elab.async false
set_option linter.all false
set_option autoImplicit false
set_option maxRecDepth 100000
namespace Ev
open PySem PySem.Spec L2
open PyProof.Rows hiding St
noncomputable section
section
variable {K : Kx} {W : WX} {al : Addr → Prop} {own own' own1 : Own} {ρ ρ' ρ1 : Env} {σ σ1 : St} {H H' H1 : Hp} {X : Cx} {pos : Pos} {D : Ends}
def FrOk (K : Kx) (r : List V → Hp → VK → Prop) (p : List PyData → Option Res) : Prop :=
  ∀ (Z : Addr → Prop) (H : Hp) (vs : List V) (ds : List PyData) (cs : List Addr) (res : Res) (Q : VK), RpA K H vs ds cs → (∀ b ∈ cs, Z b) → p ds = some res → PmQ K Z H Q res → r vs H Q
theorem semFr {r : List V → Hp → VK → Prop} {p : List PyData → Option Res} (ok : FrOk K r p) {fs : List Ev} {Q : VK} (h : SemE K W (evPm p (fs.map .ex)) σ H Q) : SemOs K W (fs.map .ex) σ H fun vs H' => r vs H' Q := by
  obtain ⟨al, own, ρ, pr, h⟩ := h
  refine ⟨al, own, ρ, pr, ?_⟩
  simp only [evPm] at h
  cases e : evOs (fs.map .ex) ρ with
  | stuck => simp only [e] at h
  | exc c ρ' => simp only [e] at h ⊢; exact h
  | ok as ρ' =>
    simp only [e] at h ⊢
    intro vs H' own' p' s' ao
    cases l : looks ρ' as with
    | none => simp only [l] at h
    | some ds =>
      simp only [l] at h
      cases q : p ds with
      | none => simp only [q] at h
      | some r' =>
        simp only [q] at h
        obtain ⟨cs, r2, z2⟩ := ArgsOk.free p' (evOs_sh e) ao l
        exact ok (Zf al own') H' vs ds cs r' Q r2 z2 q (PmQ.of p' (OkE.after s' h))
def pTup (ds : List PyData) : Option Res := if ds.length ≤ lineN then some (.sh (.tuple ds)) else none
def pLst (ds : List PyData) : Option Res := if ds.length ≤ lineN then some (.ow (.list ds)) else none
theorem fr_lst : FrOk K (fun xs H Q => xs.length ≤ sizeLine ∧ ∀ p, H p = none → Q (.ref p) (upd H p (.lst xs))) pLst := by
  intro Z H vs ds cs res Q r z h q
  simp only [pLst] at h
  split at h
  · rename_i hl
    cases h
    exact ⟨by rw [line_eq, r.length]; exact hl, fun p hp => q.lst r z hp⟩
  · cases h
theorem pe_lstD {es : List Expr} {fs : List Ev} (h : PA X es (SemOs X.kx W (fs.map .ex))) : PE X (.List es pos) (SemE X.kx W (evPm pLst (fs.map .ex))) := PE.imp (pe_lst h) fun _ _ _ h => semFr fr_lst h
def fIx : PyData → PyData → Option Res
  | .list ds, .int i => (atI ds i).map .sh
  | .tuple ds, .int i => (atI ds i).map .sh
  | .str z, .int i => if z.length ≤ lineN then (atI z.cps.toList i).map fun c => .sh (.str ⟨#[c]⟩) else none
  | _, _ => none
theorem RpA.atI {vs : List V} {ds : List PyData} {as : List Addr} (r : RpA K H vs ds as) {i : Int} {d : PyData} (e : L2.atI ds i = some d) : ∃ v bs, L2.atI vs i = some v ∧ Rp K H v d bs ∧ ∀ b ∈ bs, b ∈ as := by
  unfold L2.atI at e ⊢
  rw [r.length]
  cases q : ixN ds.length i with
  | none => rw [q] at e; cases e
  | some j => rw [q] at e; exact r.get e
theorem ok_ix : Ok2 K (rIx K) fIx := by
  intro Z H x y d e res Q hx hy h q
  cases e <;> first | (cases d <;> cases h; done) | skip
  rename_i i
  cases d with
  | list ds =>
    simp only [fIx, Option.map_eq_some_iff] at h
    obtain ⟨d, e1, rfl⟩ := h
    obtain ⟨a, vs, as, rfl, h1, r, z⟩ := hx.list
    obtain ⟨v, bs, e2, r2, z2⟩ := r.atI e1
    exact .inl ⟨a, vs, i, v, rfl, hy.int, h1, e2, q.part r2 fun b hb => z b (z2 b hb)⟩
  | tuple ds =>
    simp only [fIx, Option.map_eq_some_iff] at h
    obtain ⟨d, e1, rfl⟩ := h
    obtain ⟨a, vs, as, rfl, h1, r, z⟩ := hx.tuple
    obtain ⟨v, bs, e2, r2, z2⟩ := r.atI e1
    exact .inr (.inl ⟨a, vs, i, v, rfl, hy.int, h1, e2, q.part r2 fun b hb => z b (z2 b hb)⟩)
  | str s =>
    simp only [fIx] at h
    split at h
    · rename_i hl
      simp only [Option.map_eq_some_iff] at h
      obtain ⟨c, e1, rfl⟩ := h
      exact .inr (.inr ⟨s, i, c, hx.str, hy.int, by rw [line_eq]; exact hl, e1, q.val (.str _)⟩)
    · cases h
  | _ => cases h
theorem pe_sub1 {a b : Expr} {oa ob : Opd} (ha : PE X a (SemO X.kx W oa)) (hb : PE X b (SemO X.kx W ob)) (hs : PlainIx b := by intro _ _; rfl) : PE X (.Subscript a b pos) (SemE X.kx W (evPm (pm2 fIx) [oa, ob])) :=
  PE.imp (pe_ix ix_seq ha hb hs) fun σ H Q h => sem2 (semPm (pm2_ok ok_ix) h)
def cutD {α : Type} (xs : List α) (lo hi : Option Int) : List α := (xs.drop (HT.sIx xs.length 0 lo)).take (HT.sIx xs.length xs.length hi - HT.sIx xs.length 0 lo)
theorem RpA.cut {Z : Addr → Prop} {vs : List V} {ds : List PyData} {as : List Addr} (r : RpA K H vs ds as) (z : ∀ b ∈ as, Z b) (lo hi : Option Int) : ∃ bs, RpA K H (cutD vs lo hi) (cutD ds lo hi) bs ∧ ∀ b ∈ bs, Z b := by
  refine r.sub z (by unfold cutD; rw [List.length_take, List.length_take, List.length_drop, List.length_drop, r.length]) fun i v d e1 e2 => ?_
  unfold cutD at e1 e2
  rw [List.getElem?_take] at e1 e2
  split at e1
  · rename_i hi1
    split at e2
    · rw [List.getElem?_drop] at e1 e2
      rw [r.length] at e1
      exact ⟨_, e1, e2⟩
    · cases e2
  · cases e1
def slF (lo hi : Option Int) : PyData → Option Res
  | .list ds => some (.ow (.list (cutD ds lo hi)))
  | .tuple ds => some (.sh (.tuple (cutD ds lo hi)))
  | .str z => if z.length ≤ lineN then some (.sh (.str (cutS z lo hi))) else none
  | _ => none
def pSl01 : List PyData → Option Res
  | [d, .int j] => slF none (some j) d
  | _ => none
theorem VwA.one {Z : Addr → Prop} {vs : List V} {d : PyData} (h : VwA K H Z vs [d]) : ∃ x, vs = [x] ∧ Vw K H Z x d := by
  cases vs with
  | nil => exact h.elim
  | cons x vs =>
    cases vs with
    | nil => exact ⟨x, rfl, h.1⟩
    | cons y vs => exact h.2.elim
theorem VwA.two {Z : Addr → Prop} {vs : List V} {d e : PyData} (h : VwA K H Z vs [d, e]) : ∃ x y, vs = [x, y] ∧ Vw K H Z x d ∧ Vw K H Z y e := by
  cases vs with
  | nil => exact h.elim
  | cons x vs => obtain ⟨y, rfl, h2⟩ := VwA.one h.2; exact ⟨x, y, rfl, h.1, h2⟩
abbrev rSlX (K : Kx) : V → Option Int → Option Int → Hp → VK → Prop := fun x lo hi H Q => rSlL K x lo hi H Q ∨ (rSlF K x lo hi H Q ∨ rSlS x lo hi H Q)
theorem sl_X : SlR X (rSlX X.kx) := sl_list.or (sl_tupF.or sl_str)
theorem slF_ok {Z : Addr → Prop} {x : V} {d : PyData} {lo hi : Option Int} {res : Res} {Q : VK} (hx : Vw K H Z x d) (h : slF lo hi d = some res) (q : PmQ K Z H Q res) : rSlX K x lo hi H Q := by
  cases d with
  | list ds =>
    cases h
    obtain ⟨a, vs, as, rfl, h1, r, z⟩ := hx.list
    obtain ⟨bs, r2, z2⟩ := r.cut z lo hi
    exact .inl ⟨a, vs, rfl, h1, fun p hp => q.lst r2 z2 hp⟩
  | tuple ds =>
    cases h
    obtain ⟨a, vs, as, rfl, h1, r, z, nd⟩ := hx.tupleN
    obtain ⟨bs, r2, z2⟩ := r.cut z lo hi
    refine .inr (.inl ⟨a, vs, rfl, h1, fun ⟨e1, e2⟩ => ?_, fun _ p o hp hd => q.tup r2 z2 hp hd⟩)
    have e : cutD ds lo hi = ds := by
      unfold cutD
      rw [← r.length, e1, e2, List.drop_zero, Nat.sub_zero, r.length, List.take_length]
    rw [e] at q
    exact q.part (.tup h1 r nd) z
  | str s =>
    simp only [slF] at h
    split at h
    · rename_i hl
      cases h
      exact .inr (.inr ⟨s, hx.str, by rw [line_eq]; exact hl, q.val (.str _)⟩)
    · cases h
  | _ => cases h
def rSl01 (K : Kx) : List V → Hp → VK → Prop := fun vs H Q => ∃ x i, vs = [x, .int i] ∧ rSlX K x none (some i) H Q
theorem ok_sl01 : PmOk K (rSl01 K) pSl01 := by
  intro Z H vs ds res Q hv h q
  unfold pSl01 at h
  split at h
  · obtain ⟨x, y, rfl, hx, hy⟩ := hv.two; exact ⟨x, _, by rw [hy.int], slF_ok hx h q⟩
  · cases h
variable {a b c : Expr} {oa ob oc : Opd} {p2 : Pos}
theorem pe_sl01 (ha : PE X a (SemO X.kx W oa)) (hb : PE X b (SemO X.kx W ob)) : PE X (.Subscript a (.Slice none (some b) none p2) pos) (SemE X.kx W (evPm pSl01 [oa, ob])) :=
  PE.imp (pe_slice sl_X ha po_none (po_some hb)) fun σ H Q h => SemO.mono (sem2 (semPm ok_sl01 h)) fun x H1 q => SemO.mono q fun y H2 ⟨x', i, e, q⟩ => by cases e; exact ⟨i, rfl, q⟩
/-- the value must be an int -/
def evInt (f : Ev) : Ev := fun ρ => match f ρ with
  | .ok (.sh (.int i)) ρ' => .ok (.sh (.int i)) ρ'
  | .ok _ _ => .stuck
  | .exc c ρ' => .exc c ρ'
  | .stuck => .stuck
theorem pe_cb {id : String} {x : Str} {p : Pos} {es : List Expr} {os : List Opd} {r : List V → Hp → VK → Prop} {f : List PyData → Option Res} {e : Expr} (hc : CallR X (.builtin id) r) (ok : PmOk X.kx r f) (hg : Gl X x) (hm : X.mg x = none) (hv : bootBuiltins x = some (.builtin id)) (ha : PA X (e :: es) (SemOs X.kx W os))
    (hn : x ≠ "__name__" := by decide) (hdb : (x == ("__debug__" : Str)) = false := by decide) (he : starEach (e :: es) X.env = (false, eval e X.env) :: starEach es X.env := by rfl) (hpl : (backTo pos (starEach es X.env)).any (·.1) = false := by rfl) :
    PE X (.Call (.Name x p) (e :: es) [] pos) (SemE X.kx W (evPm f os)) := PE.imp (pe_callB hc hg hm hv ha hn hdb he hpl) fun _ _ _ h => semPm ok h
theorem pe_ct {T : String} {x : Str} {p : Pos} {es : List Expr} {os : List Opd} {r : List V → Hp → VK → Prop} {f : List PyData → Option Res} {e : Expr} (hc : CallR X (.type T) r) (ok : PmOk X.kx r f) (hg : Gl X x) (hm : X.mg x = none) (hv : bootBuiltins x = some (.type T)) (ha : PA X (e :: es) (SemOs X.kx W os))
    (hn : x ≠ "__name__" := by decide) (hdb : (x == ("__debug__" : Str)) = false := by decide) (he : starEach (e :: es) X.env = (false, eval e X.env) :: starEach es X.env := by rfl) (hpl : (backTo pos (starEach es X.env)).any (·.1) = false := by rfl) :
    PE X (.Call (.Name x p) (e :: es) [] pos) (SemE X.kx W (evPm f os)) := PE.imp (pe_callTy hc hg hm hv ha hn hdb he hpl) fun _ _ _ h => semPm ok h
def pLen : List PyData → Option Res
  | [.list ds] => some (.sh (.int ds.length))
  | [.tuple ds] => some (.sh (.int ds.length))
  | [.str z] => if z.length ≤ lineN then some (.sh (.int z.length)) else none
  | _ => none
theorem ok_len : PmOk K (fun xs H Q => ∃ x n, xs = [x] ∧ LenV K x H n ∧ Q (.int n) H) pLen := by
  intro Z H vs ds res Q hv h q
  unfold pLen at h
  split at h
  · cases h
    obtain ⟨x, rfl, hx⟩ := hv.one
    obtain ⟨a, vs, as, rfl, h1, r, z⟩ := hx.list
    exact ⟨_, _, rfl, .inl ⟨vs, h1, rfl⟩, by rw [r.length]; exact q.val (.int _)⟩
  · cases h
    obtain ⟨x, rfl, hx⟩ := hv.one
    obtain ⟨a, vs, as, rfl, h1, r, z⟩ := hx.tuple
    exact ⟨_, _, rfl, .inr ⟨vs, h1, rfl⟩, by rw [r.length]; exact q.val (.int _)⟩
  · split at h
    · rename_i hl
      cases h
      obtain ⟨x, rfl, hx⟩ := hv.one
      exact ⟨_, _, rfl, by rw [hx.str]; exact ⟨by rw [line_eq]; exact hl, rfl⟩, q.val (.int _)⟩
    · cases h
  · cases h
/-- list(x), tuple(x) -/
def pList : List PyData → Option Res
  | [.list ds] => some (.ow (.list ds))
  | [.tuple ds] => some (.ow (.list ds))
  | _ => none
def pTuple : List PyData → Option Res
  | [.list ds] => some (.sh (.tuple ds))
  | [.tuple ds] => some (.sh (.tuple ds))
  | _ => none
/-- int(n), int(flag) -/
def pInt : List PyData → Option Res
  | [.int i] => some (.sh (.int i))
  | [.bool b] => some (.sh (.int (if b then 1 else 0)))
  | _ => none
theorem ok_int : PmOk K (fun xs H Q => (∃ i, xs = [.int i] ∧ Q (.int i) H) ∨ ∃ k, xs = [.bl k] ∧ Q (.int (if k then 1 else 0)) H) pInt := by
  intro Z H vs ds res Q hv h q
  unfold pInt at h
  split at h
  · cases h
    obtain ⟨x, rfl, hx⟩ := hv.one
    exact .inl ⟨_, by rw [hx.int], q.val (.int _)⟩
  · cases h
    obtain ⟨x, rfl, hx⟩ := hv.one
    exact .inr ⟨_, by rw [hx.bl], q.val (.int _)⟩
  · cases h
/-- max(m, n), min(m, n) -/
def pMax2 : List PyData → Option Res
  | [.int i, .int j] => some (.sh (.int (if j > i then j else i)))
  | _ => none
def pMin2 : List PyData → Option Res
  | [.int i, .int j] => some (.sh (.int (if j < i then j else i)))
  | _ => none
/-- lists of ints, of truth values -/
def intsD : List PyData → Option (List Int)
  | [] => some []
  | .int i :: ds => (intsD ds).map (i :: ·)
  | _ :: _ => none
theorem RpA.ints : ∀ {ds : List PyData} {ns : List Int} {vs : List V} {as : List Addr}, RpA K H vs ds as → intsD ds = some ns → vs = ns.map V.int
  | [], ns, vs, as, r, h => by cases h; cases r; rfl
  | .int i :: ds, ns, vs, as, r, h => by
    simp only [intsD, Option.map_eq_some_iff] at h
    obtain ⟨ms, h1, rfl⟩ := h
    cases r with
    | cons r1 r2 => cases r1; rw [RpA.ints r2 h1]; rfl
  | .none :: _, _, _, _, _, h => by cases h
  | .bool _ :: _, _, _, _, _, h => by cases h
  | .str _ :: _, _, _, _, _, h => by cases h
  | .list _ :: _, _, _, _, _, h => by cases h
  | .tuple _ :: _, _, _, _, _, h => by cases h
  | .dict _ :: _, _, _, _, _, h => by cases h
def pSum : List PyData → Option Res
  | [.list ds] => (intsD ds).map fun ns => .sh (.int ns.sum)
  | _ => none
theorem ok_sum : PmOk K (rSum K) pSum := by
  intro Z H vs ds res Q hv h q
  unfold pSum at h
  split at h
  · simp only [Option.map_eq_some_iff] at h
    obtain ⟨ns, h1, rfl⟩ := h
    obtain ⟨x, rfl, hx⟩ := hv.one
    obtain ⟨a, vs, as, rfl, h2, r, z⟩ := hx.list
    rw [RpA.ints r h1] at h2
    exact ⟨a, ns, rfl, h2, q.val (.int _)⟩
  · cases h
end
end
end Ev
set_option Elab.async false
set_option linter.all false
set_option autoImplicit false
set_option maxRecDepth 100000
namespace Ev
open PySem PySem.Spec L2
open PyProof.Rows hiding St
noncomputable section
inductive Tg where
  | nm (i : Nat) | tup (ts : List Tg)
mutual
def bindT : Tg → PyData → Env → Option Env
  | .nm i, d, ρ => putR i (.sh d) ρ
  | .tup ts, .tuple ds, ρ => bindTs ts ds ρ
  | .tup ts, .list ds, ρ => bindTs ts ds ρ
  | .tup _, _, _ => none
def bindTs : List Tg → List PyData → Env → Option Env
  | [], [], ρ => some ρ
  | t :: ts, d :: ds, ρ => match bindT t d ρ with
    | some ρ' => bindTs ts ds ρ'
    | none => none
  | _, _, _ => none
end
mutual
def Tg.ixs : Tg → List Nat
  | .nm i => [i]
  | .tup ts => ixsA ts
def ixsA : List Tg → List Nat
  | [] => []
  | t :: ts => t.ixs ++ ixsA ts
end
/-- the slots but is stand as they were -/
def Agr (is : List Nat) (σ σ' : St) : Prop := ∀ i, i ∉ is → σ'[i]? = σ[i]?
def SemG (K : Kx) (t : Tg) : TG := fun v σ H Q => ∃ al own ρ d as ρ', Pre K al own ρ σ H ∧ Rp K H v d as ∧ (∀ b ∈ as, Zf al own b) ∧ bindT t d ρ = some ρ' ∧ ∀ σ' own', Pre K al own' ρ' σ' H → Stp own ρ H own' ρ' H → Agr t.ixs σ σ' → Q σ' H
def SemGs (K : Kx) (ts : List Tg) : TGs := fun vs σ H Q => ∃ al own ρ ds as ρ', Pre K al own ρ σ H ∧ RpA K H vs ds as ∧ (∀ b ∈ as, Zf al own b) ∧ bindTs ts ds ρ = some ρ' ∧ ∀ σ' own', Pre K al own' ρ' σ' H → Stp own ρ H own' ρ' H → Agr (ixsA ts) σ σ' → Q σ' H
section
variable {K : Kx} {W : WX} {al : Addr → Prop} {own own' own1 : Own} {ρ ρ' ρ1 : Env} {σ σ1 : St} {H H' H1 : Hp} {X : Cx} {pos : Pos} {D : Ends}
theorem PG.imp {e : Expr} {t t' : TG} (h : PG X e t) (i : ∀ v σ H Q, t' v σ H Q → t v σ H Q) : PG X e t' := ⟨fun pins s σ H v u Q I r q => h.run pins s σ H v u Q I r (i v σ H Q q)⟩
theorem PGs.imp {e : List Expr} {t t' : TGs} (h : PGs X e t) (i : ∀ v σ H Q, t' v σ H Q → t v σ H Q) : PGs X e t' := ⟨fun pins s σ H v u Q I r q => h.run pins s σ H v u Q I r (i v σ H Q q)⟩
theorem g_nm {i : Nat} {x : Str} (hN : X.N.Nodup) (hi : X.N[i]? = some x) (hx : Loc X.env.scope x) (hf : X.fn x = true ∨ X.env.scope.names.lookup x = some .local := by first | exact .inl rfl | exact .inr rfl | assumption) : PG X (.Name x pos) (SemG X.kx (.nm i)) :=
  PG.imp (pg_name hN hi hx hf) fun v σ H Q ⟨al, own, ρ, d, as, ρ', p, r, z, e, k⟩ => by
    obtain ⟨p2, s2⟩ := put_sh p e r z
    exact k _ _ p2 s2 fun j hj => List.getElem?_set_ne (fun e => hj (by simp [Tg.ixs, e]))
theorem g_nil : PGs X [] (SemGs X.kx []) := PGs.imp pgs_nil fun v σ H Q ⟨al, own, ρ, ds, as, ρ', p, r, z, e, k⟩ => by
  cases ds with
  | cons d ds => simp [bindTs] at e
  | nil =>
    simp only [bindTs, Option.some.injEq] at e
    subst e
    cases r
    exact ⟨rfl, k σ own p .refl fun _ _ => rfl⟩
theorem g_cons {e : Expr} {es : List Expr} {t : Tg} {ts : List Tg} (h1 : PG X e (SemG X.kx t)) (h2 : PGs X es (SemGs X.kx ts))
    (hs : (assignEach (e :: es) X.env).map (·.2) = assign e X.env :: (assignEach es X.env).map (·.2) := by rfl) : PGs X (e :: es) (SemGs X.kx (t :: ts)) := PGs.imp (pgs_cons h1 h2 hs) fun v σ H Q ⟨al, own, ρ, ds, as, ρ', p, r, z, e, k⟩ => by
  cases ds with
  | nil => simp [bindTs] at e
  | cons d ds =>
    cases r with
    | cons r1 r2 =>
      simp only [bindTs] at e
      cases q : bindT t d ρ with
      | none => simp [q] at e
      | some ρ1 =>
        simp only [q] at e
        refine ⟨_, _, rfl, al, own, ρ, d, _, ρ1, p, r1, fun b hb => z b (List.mem_append_left _ hb), q, fun σ1 own1 p1 s1 a1 => ?_⟩
        have z2 : ∀ b ∈ _, Zf al own b := fun b hb => z b (List.mem_append_right _ hb)
        refine ⟨al, own1, ρ1, ds, _, ρ', p1, r2, fun b hb => ⟨(z2 b hb).1, fun i e1 => ?_⟩, e, fun σ2 own2 p2 s2 a2 => k σ2 own2 p2 (s1.trans s2) fun j hj => (a2 j fun h => hj (by simp [ixsA, h])).trans (a1 j fun h => hj (by simp [ixsA, h]))⟩
        rcases s1.nw i b e1 with ⟨j, q1⟩ | q1
        · exact (z2 b hb).2 j q1
        · exact RpA.there _ _ _ r2 b hb q1
theorem bindTs_len : ∀ (ts : List Tg) (ds : List PyData) (ρ ρ' : Env), bindTs ts ds ρ = some ρ' → ts.length = ds.length
  | [], ds, ρ, ρ', e => by cases ds <;> simp_all [bindTs]
  | t :: ts, ds, ρ, ρ', e => by
    cases ds with
    | nil => simp [bindTs] at e
    | cons d ds =>
      simp only [bindTs] at e
      split at e
      · rw [List.length_cons, List.length_cons, bindTs_len _ _ _ _ e]
      · cases e
theorem pg_or {e : Expr} {t t' : TG} (h : PG X e t) (h' : PG X e t') : PG X e fun v σ H Q => t v σ H Q ∨ t' v σ H Q := ⟨fun pins s σ H v u Q I r q => q.elim (h.run pins s σ H v u Q I r) (h'.run pins s σ H v u Q I r)⟩
theorem g_tup {es : List Expr} {k : Nat} {ts : List Tg} (hc : X.calm = true) (h : PGs X es (SemGs X.kx ts)) (hl : es.length = ts.length := by rfl)
    (hn : (assignEach es X.env).length = es.length := by rfl) (hst : (assignEach es X.env).findIdx? (·.1) = none := by rfl) : PG X (.Tuple es k pos) (SemG X.kx (.tup ts)) := PG.imp (pg_or (pg_tup hc h hn hst) (pg_lst hc h hn hst)) fun v σ H Q ⟨al, own, ρ, d, as, ρ', p, r, z, e, k⟩ => by
  cases d with
  | tuple ds =>
    cases r with
    | tup h1 h2 =>
      simp only [bindT] at e
      exact .inl ⟨_, _, rfl, h1, by rw [h2.length, hl]; exact (bindTs_len _ _ _ _ e).symm, al, own, ρ, ds, as, ρ', p, h2, z, e, k⟩
  | list ds =>
    simp only [bindT] at e
    cases r with
    | lst h1 h2 => exact .inr ⟨_, _, rfl, .inl h1, by rw [h2.length, hl]; exact (bindTs_len _ _ _ _ e).symm, al, own, ρ, ds, _, ρ', p, h2, fun b hb => z b (by simp [hb]), e, k⟩
    | lsk h1 h2 => exact .inr ⟨_, _, rfl, .inr h1, by rw [h2.length, hl]; exact (bindTs_len _ _ _ _ e).symm, al, own, ρ, ds, _, ρ', p, h2, z, e, k⟩
  | none => simp [bindT] at e
  | bool _ => simp [bindT] at e
  | int _ => simp [bindT] at e
  | str _ => simp [bindT] at e
  | dict _ => simp [bindT] at e
def VwN (K : Kx) (H : Hp) (Z N : Addr → Prop) (v : V) (d : PyData) : Prop := (∃ as, Rp K H v d as ∧ ∀ b ∈ as, Z b) ∨ ∃ a, OwV K H Z v d a ∧ N a
def VwNA (K : Kx) (H : Hp) (Z N : Addr → Prop) : List V → List PyData → Prop
  | [], [] => True
  | v :: vs, d :: ds => VwN K H Z N v d ∧ VwNA K H Z N vs ds
  | _, _ => False
theorem VwNA.one {Z N : Addr → Prop} {vs : List V} {d : PyData} (h : VwNA K H Z N vs [d]) : ∃ x, vs = [x] ∧ VwN K H Z N x d := by
  cases vs with
  | nil => exact h.elim
  | cons x vs =>
    cases vs with
    | nil => exact ⟨x, rfl, h.1⟩
    | cons y vs => exact h.2.elim
theorem VwNA.two {Z N : Addr → Prop} {vs : List V} {d e : PyData} (h : VwNA K H Z N vs [d, e]) : ∃ x y, vs = [x, y] ∧ VwN K H Z N x d ∧ VwN K H Z N y e := by
  cases vs with
  | nil => exact h.elim
  | cons x vs => obtain ⟨y, rfl, h2⟩ := VwNA.one h.2; exact ⟨x, y, rfl, h.1, h2⟩
theorem VwN.int {Z N : Addr → Prop} {v : V} {i : Int} (h : VwN K H Z N v (.int i)) : v = .int i := by
  rcases h with ⟨as, r, _⟩ | ⟨a, o, _⟩
  · cases r; rfl
  · obtain ⟨as, r, _⟩ := o.rp; cases r
theorem VwN.str {Z N : Addr → Prop} {v : V} {i : Str} (h : VwN K H Z N v (.str i)) : v = .str i := by
  rcases h with ⟨as, r, _⟩ | ⟨a, o, _⟩
  · cases r; rfl
  · obtain ⟨as, r, _⟩ := o.rp; cases r
def Kept (H : Hp) (N : Addr → Prop) (H2 : Hp) : Prop := ∃ Wd : Addr → Prop, (∀ b o, H b = some o → ¬ Wd b → NT o → H2 b = some o) ∧ (∀ b, Wd b → ∃ o, H b = some o ∧ Mut (some o)) ∧ ∀ b, N b → ¬ Wd b
theorem Kept.rd {N : Addr → Prop} {a : Addr} {o : HO} (k : Kept H N H') (h : Rd H a o) (n : N a) (nt : NT o) : Rd H' a o := let ⟨_, k1, _, k3⟩ := k; Rd.keep k1 h (k3 a n) nt
theorem VwN.list {Z N : Addr → Prop} {v : V} {ds : List PyData} (hz : ∀ b, Z b → N b) (h : VwN K H Z N v (.list ds)) : ∃ a vs as, v = .ref a ∧ SqL K H a vs ∧ (∀ H2, Kept H N H2 → SqL K H2 a vs) ∧ RpA K H vs ds as ∧ ∀ b ∈ as, Z b := by
  rcases h with ⟨as, r, z⟩ | ⟨a, ⟨e, o⟩, n⟩
  · cases r with
    | lst h1 h2 => exact ⟨_, _, _, rfl, .inl h1, fun H2 k => .inl (k.rd h1 (hz _ (z _ (by simp))) trivial), h2, fun b hb => z b (by simp [hb])⟩
    | lsk h1 h2 => exact ⟨_, _, _, rfl, .inr h1, fun H2 k => .inr h1, h2, z⟩
  · rcases o with ⟨vs, ds', as, e1, h2, h3, h4⟩ | ⟨o, vs, ds', as, e1, h2, h0, h3, h4⟩
    · cases e1; exact ⟨a, vs, as, e, .inl (.inl h2), fun H2 k => .inl (k.rd (.inl h2) n trivial), h3, h4⟩
    · cases e1
theorem VwN.tuple {Z N : Addr → Prop} {v : V} {ds : List PyData} (h : VwN K H Z N v (.tuple ds)) : ∃ a vs as, v = .ref a ∧ SqT K H a vs ∧ RpA K H vs ds as ∧ ∀ b ∈ as, Z b := by
  rcases h with ⟨as, r, z⟩ | ⟨a, ⟨e, o⟩, n⟩
  · cases r with | tup h1 h2 => exact ⟨_, _, _, rfl, h1, h2, z⟩
  · rcases o with ⟨vs, ds', as, e1, h2, h3, h4⟩ | ⟨o, vs, ds', as, e1, h2, h0, h3, h4⟩ <;> cases e1
theorem Kept.rpA {N : Addr → Prop} {vs : List V} {ds : List PyData} {as : List Addr} (k : Kept H N H') (r : RpA K H vs ds as) (n : ∀ b ∈ as, N b) : RpA K H' vs ds as := let ⟨_, k1, k2, k3⟩ := k; RpA.keep k1 k2 ds vs as r fun b hb => k3 b (n b hb)
theorem Kept.sqT {N : Addr → Prop} {a : Addr} {vs : List V} (k : Kept H N H') (h : SqT K H a vs) : SqT K H' a vs := by
  obtain ⟨Wd, k1, k2, k3⟩ := k
  rcases h with h | h
  · refine .inl (Rd.keep k1 h (fun hw => ?_) trivial)
    obtain ⟨o, e, m⟩ := k2 _ hw
    rcases h with h | ⟨x, h⟩ <;> (rw [h] at e; cases e; exact m)
  · exact .inr h
def ItOk (K : Kx) (wi : List V → Hp → (It → Hp → Prop) → Prop) (mk : List PyData → Option (List PyData)) : Prop :=
  ∀ (Z N : Addr → Prop) (H : Hp) (vs : List V) (ds items : List PyData), (∀ b, Z b → N b) → VwNA K H Z N vs ds → mk ds = some items →
    ∃ (J : It) (B : Hp → Prop) (Y : Nat → Hp → V → Hp → Prop), (∀ R : It → Hp → Prop, R J H → wi vs H R) ∧ Walk J items.length B Y ∧ B H ∧ (∀ H2, Kept H N H2 → B H2) ∧
      ∀ i H2 x H3, i < items.length → B H2 → Y i H2 x H3 → Grow H2 H3 ∧ ∃ d as, items[i]? = some d ∧ Rp K H3 x d as ∧ ∀ b ∈ as, Z b
/-- a list -/
def kList : List PyData → Option (List PyData)
  | [.list ds] => some ds
  | _ => none
def wiList (K : Kx) : List V → Hp → (It → Hp → Prop) → Prop := fun vs H R => ∃ x, vs = [x] ∧ ∃ a, x = .ref a ∧ (∃ xs, SqL K H a xs) ∧ R (Itl K a) H
theorem item_of {Z : Addr → Prop} {H2 : Hp} {vs : List V} {ds : List PyData} {as : List Addr} (r : RpA K H2 vs ds as) (z : ∀ b ∈ as, Z b) {i : Nat} {x : V} (hi : i < ds.length) (e : vs[i]? = some x) : ∃ d as, ds[i]? = some d ∧ Rp K H2 x d as ∧ ∀ b ∈ as, Z b := by
  obtain ⟨v, bs, q1, q2, q3⟩ := r.get (List.getElem?_eq_getElem hi)
  rw [e] at q1
  cases q1
  exact ⟨_, bs, List.getElem?_eq_getElem hi, q2, fun b hb => z b (q3 b hb)⟩
theorem it_list : ItOk K (wiList K) kList := by
  intro Z N H vs ds items hz hv h
  unfold kList at h
  split at h
  · cases h
    obtain ⟨x, rfl, hx⟩ := hv.one
    obtain ⟨a, vs, as, rfl, h1, n, r, z⟩ := hx.list hz
    refine ⟨Itl K a, fun H2 => SqL K H2 a vs ∧ RpA K H2 vs items as, YAt vs, fun R q => ⟨_, rfl, a, rfl, ⟨vs, h1⟩, q⟩, ?_, ⟨h1, r⟩, fun H2 k => ⟨n H2 k, k.rpA r fun b hb => hz b (z b hb)⟩, ?_⟩
    · rw [← r.length]; exact walk_list.mono (fun H h => h.1) fun i H x H' _ _ y => y
    · rintro i H2 x H3 hi ⟨g, r2⟩ ⟨rfl, e⟩
      exact ⟨.refl, item_of r2 z hi e⟩
  · cases h
/-- a tuple -/
def kTuple : List PyData → Option (List PyData)
  | [.tuple ds] => some ds
  | _ => none
def wiTup (K : Kx) : List V → Hp → (It → Hp → Prop) → Prop := fun vs H R => ∃ x, vs = [x] ∧ ∃ a, x = .ref a ∧ (∃ xs, SqT K H a xs) ∧ R (Itt K a) H
theorem it_tup : ItOk K (wiTup K) kTuple := by
  intro Z N H vs ds items hz hv h
  unfold kTuple at h
  split at h
  · cases h
    obtain ⟨x, rfl, hx⟩ := hv.one
    obtain ⟨a, vs, as, rfl, h1, r, z⟩ := hx.tuple
    refine ⟨Itt K a, fun H2 => SqT K H2 a vs ∧ RpA K H2 vs items as, YAt vs, fun R q => ⟨_, rfl, a, rfl, ⟨vs, h1⟩, q⟩, ?_, ⟨h1, r⟩, fun H2 k => ⟨k.sqT h1, k.rpA r fun b hb => hz b (z b hb)⟩, ?_⟩
    · rw [← r.length]; exact walk_tup.mono (fun H h => h.1) fun i H x H' _ _ y => y
    · rintro i H2 x H3 hi ⟨g, r2⟩ ⟨rfl, e⟩
      exact ⟨.refl, item_of r2 z hi e⟩
  · cases h
/-- range(n), range(m, n) -/
def rgI (a : Int) (n : Nat) : List PyData := (List.range n).map fun i : Nat => .int (a + (i : Int))
theorem rgI_length (a : Int) (n : Nat) : (rgI a n).length = n := by simp [rgI]
theorem rgI_get {a : Int} {n i : Nat} (h : i < n) : (rgI a n)[i]? = some (.int (a + (i : Int))) := by simp [rgI, h]
def kRange1 : List PyData → Option (List PyData)
  | [.int n] => if -p62 ≤ n ∧ n < p62 then some (rgI 0 n.toNat) else none
  | _ => none
theorem walk_rgI {lo : Int} {n : Nat} : Walk (Itr lo n) (rgI lo n).length (fun _ => True) (YFn fun i => .int (lo + i)) := by rw [rgI_length]; exact walk_range
theorem rgI_item {Z : Addr → Prop} {lo : Int} {n i : Nat} {H2 H3 : Hp} {x : V} (hi : i < (rgI lo n).length) (y : YFn (fun i => V.int (lo + i)) i H2 x H3) : Grow H2 H3 ∧ ∃ d as, (rgI lo n)[i]? = some d ∧ Rp K H3 x d as ∧ ∀ b ∈ as, Z b := by
  obtain ⟨rfl, rfl⟩ := y
  rw [rgI_length] at hi
  exact ⟨.refl, _, [], rgI_get hi, .int _, fun _ z => nomatch z⟩
theorem it_range1 : ItOk K (fun vs H R => ∃ j : Int, vs = [.int j] ∧ -(2 ^ 62) ≤ j ∧ j < 2 ^ 62 ∧ R (Itr 0 j.toNat) H) kRange1 := by
  intro Z N H vs ds items hz hv h
  unfold kRange1 at h
  split at h
  · split at h
    · rename_i n hn
      cases h
      rw [p62_eq] at hn
      obtain ⟨x, rfl, hx⟩ := hv.one
      refine ⟨Itr 0 n.toNat, fun _ => True, _, fun R q => ⟨n, by rw [hx.int], hn.1, hn.2, q⟩, walk_rgI, trivial, fun _ _ => trivial, fun i H2 x H3 hi _ y => rgI_item hi y⟩
    · cases h
  · cases h
/-- enumerate(list) -/
def enumD (ds : List PyData) : List PyData := (List.range ds.length).zipWith (fun (i : Nat) d => .tuple [.int (i : Int), d]) ds
theorem enumD_length (ds : List PyData) : (enumD ds).length = ds.length := by simp [enumD]
theorem enumD_get {ds : List PyData} {i : Nat} {d : PyData} (h : ds[i]? = some d) : (enumD ds)[i]? = some (.tuple [.int (i : Int), d]) := by
  have hi : i < ds.length := (List.getElem?_eq_some_iff.mp h).1
  simp [enumD, List.getElem?_zipWith, hi]
  exact (List.getElem?_eq_some_iff.mp h).2
theorem pair_rpF {Z : Addr → Prop} {H2 : Hp} {T : Addr} {o : Obj} {x y : V} {d e : PyData} {as bs : List Addr} (hT : H2 T = none) (hd : o.dict = none) (r1 : Rp K H2 x d as) (z1 : ∀ b ∈ as, Z b) (r2 : Rp K H2 y e bs) (z2 : ∀ b ∈ bs, Z b) :
    Grow H2 (upd H2 T (.frz o (.tup [x, y]))) ∧ ∃ cs, Rp K (upd H2 T (.frz o (.tup [x, y]))) (.ref T) (.tuple [d, e]) cs ∧ ∀ b ∈ cs, Z b := by
  have g : Grow H2 (upd H2 T (.frz o (.tup [x, y]))) := Grow.upd hT
  exact ⟨g, _, .tup (.inl (.inr ⟨o, upd_same⟩)) (.cons (g.rp r1) (.cons (g.rp r2) .nil)) (fun _ => .inl ⟨o, _, upd_same, hd⟩), fun b hb => by
    rcases List.mem_append.mp hb with hb | hb
    · exact z1 b hb
    · rw [List.append_nil] at hb; exact z2 b hb⟩
def lock1 (j : Nat) (ρ : Env) : Env := match ρ[j]? with
  | some (some s) => if s.wr = true then ρ.set j (some (.lk s.d)) else ρ
  | _ => ρ
/-- back to what stood in ρ0 -/
def unlk1 (ρ0 : Env) (j : Nat) (ρ : Env) : Env := match ρ0[j]? with
  | some (some s) => if s.wr = true then ρ.set j (some s) else ρ
  | _ => ρ
theorem Pre.lock (p : Pre K al own ρ σ H) (j : Nat) : Pre K al own (lock1 j ρ) σ H := by
  unfold lock1
  split
  · rename_i s e
    split
    · rename_i hw
      refine ⟨p.tb, p.fr, p.inj, p.mu, by rw [List.length_set]; exact p.len, fun i s' e1 => ?_⟩
      rcases getElem?_set_cases e1 with ⟨rfl, e2, _⟩ | ⟨_, e2⟩
      · cases e2
        obtain ⟨v, h1, h2⟩ := p.sl _ s e
        refine ⟨v, h1, ?_⟩
        cases s with
        | sh d => cases hw
        | lk d => cases hw
        | ex a c => cases hw
        | ow d => obtain ⟨a, q, o, _⟩ := h2; exact ⟨a, q, o⟩
        | io d => exact h2
      · exact p.sl i s' e2
    · exact p
  · exact p
theorem Wr.lock {j : Nat} {b : Addr} (h : Wr own (lock1 j ρ) b) : Wr own ρ b := by
  obtain ⟨i, s, e1, e2, e3⟩ := h
  unfold lock1 at e2
  split at e2
  · split at e2
    · rcases getElem?_set_cases e2 with ⟨_, e4, _⟩ | ⟨_, e4⟩
      · cases e4; cases e3
      · exact ⟨i, s, e1, e4, e3⟩
    · exact ⟨i, s, e1, e2, e3⟩
  · exact ⟨i, s, e1, e2, e3⟩
theorem unlock {al' : Addr → Prop} {j : Nat} (p0 : Pre K al own ρ σ H) (p : Pre K al' own' ρ' σ1 H') (ha : ∀ i b, al b → own' i = some b → al' b) (s : Stp own (lock1 j ρ) H own' ρ' H') : Pre K al' own' (unlk1 ρ j ρ') σ1 H' ∧ Stp own ρ H own' (unlk1 ρ j ρ') H' := by
  unfold unlk1
  cases e : ρ[j]? with
  | none =>
    have el : lock1 j ρ = ρ := by unfold lock1; rw [e]
    rw [el] at s
    exact ⟨p, s⟩
  | some t =>
    cases t with
    | none =>
      have el : lock1 j ρ = ρ := by unfold lock1; rw [e]
      rw [el] at s
      exact ⟨p, s⟩
    | some t =>
      by_cases hw : t.wr = true
      · have el : lock1 j ρ = ρ.set j (some (.lk t.d)) := by unfold lock1; rw [e]; exact if_pos hw
        rw [el] at s
        simp only
        rw [if_pos hw]
        have hj : j < ρ.length := (List.getElem?_eq_some_iff.mp e).1
        obtain ⟨q1, q2⟩ := s.lk j t.d (by rw [List.getElem?_set_self hj])
        have hj' : j < ρ'.length := (List.getElem?_eq_some_iff.mp q1).1
        obtain ⟨v0, _, ok0⟩ := p0.sl j t e
        obtain ⟨v1, h1, a1, e1, o1⟩ := p.sl j _ q1
        refine ⟨⟨p.tb, p.fr, p.inj, p.mu, by rw [List.length_set]; exact p.len, fun i s' ei => ?_⟩, ⟨fun b o eb w n => s.keep b o eb (fun ⟨i, x, x1, x2, x3⟩ => ?_) n, s.dom, s.nw, fun b ⟨i, x, x1, x2, x3⟩ => ?_, fun i d ei => ?_, fun i d ei => ?_, by rw [List.length_set, s.ln, List.length_set]⟩⟩
        · rcases getElem?_set_cases ei with ⟨rfl, e2, _⟩ | ⟨_, e2⟩
          · cases e2
            refine ⟨v1, h1, ?_⟩
            rw [q2] at e1
            cases t with
            | sh d => cases hw
            | lk d => cases hw
            | ex a c => cases hw
            | io d => exact ⟨a1, q2.trans e1, o1⟩
            | ow d =>
              obtain ⟨a3, e0, _, z0⟩ := ok0
              rw [e0] at e1
              cases e1
              exact ⟨_, q2.trans e0, o1, ha _ _ z0 (q2.trans e0)⟩
          · exact p.sl i s' e2
        · rcases getElem?_set_cases x2 with ⟨_, e4, _⟩ | ⟨_, e4⟩
          · cases e4; cases x3
          · exact w ⟨i, x, x1, e4, x3⟩
        · rcases getElem?_set_cases x2 with ⟨rfl, e4, _⟩ | ⟨hi, e4⟩
          · rw [q2] at x1; exact .inl ⟨_, t, x1, e, hw⟩
          · refine (s.fz b ⟨i, x, x1, e4, x3⟩).elim (fun ⟨k, y, y1, y2, y3⟩ => ?_) .inr
            rcases getElem?_set_cases y2 with ⟨_, e5, _⟩ | ⟨_, e5⟩
            · cases e5; cases y3
            · exact .inl ⟨k, y, y1, e5, y3⟩
        · have hi : i ≠ j := fun z => by subst z; rw [e] at ei; cases ei; cases hw
          obtain ⟨r1, r2⟩ := s.lk i d (by rw [List.getElem?_set_ne (Ne.symm hi)]; exact ei)
          exact ⟨by rw [List.getElem?_set_ne (Ne.symm hi)]; exact r1, r2⟩
        · by_cases hi : i = j
          · subst hi
            rw [e] at ei
            cases ei
            exact ⟨⟨d, by rw [List.getElem?_set_self hj']⟩, q2⟩
          · obtain ⟨⟨d', r1⟩, r2⟩ := s.io i d (by rw [List.getElem?_set_ne (Ne.symm hi)]; exact ei)
            exact ⟨⟨d', by rw [List.getElem?_set_ne (Ne.symm hi)]; exact r1⟩, r2⟩
      · have el : lock1 j ρ = ρ := by unfold lock1; rw [e]; exact if_neg hw
        rw [el] at s
        simp only
        rw [if_neg hw]
        exact ⟨p, s⟩
end
end
end Ev
set_option Elab.async false
set_option linter.all false
set_option autoImplicit false
set_option maxRecDepth 100000
namespace Ev
open PySem PySem.Spec L2
open PyProof.Rows hiding St
noncomputable section
def Arg.lk (ρ : Env) : Arg → Env
  | .pl j => lock1 j ρ
  | .sh _ => ρ
def Arg.un (ρ0 : Env) : Arg → Env → Env
  | .pl j, ρ => unlk1 ρ0 j ρ
  | .sh _, ρ => ρ
/-- all operands locked, one by one -/
def lks : List Arg → Env → Env
  | [], ρ => ρ
  | a :: as, ρ => lks as (a.lk ρ)
def uns : List Arg → Env → Env → Env
  | [], _, ρ => ρ
  | a :: as, ρ0, ρ => a.un ρ0 (uns as (a.lk ρ0) ρ)
def OutS.on (f : Env → Env) : OutS → OutS
  | .next ρ => .next (f ρ)
  | .ret r ρ => .ret r (f ρ)
  | .brk ρ => .brk (f ρ)
  | .cont ρ => .cont (f ρ)
  | .exc c ρ => .exc c (f ρ)
  | .stuck => .stuck
def forGo (t : Tg) (body : EvS) : List PyData → EvS
  | [], ρ => .next ρ
  | d :: ds, ρ => match bindT t d ρ with
    | none => .stuck
    | some ρ1 => match body ρ1 with
      | .next ρ2 => forGo t body ds ρ2
      | .cont ρ2 => forGo t body ds ρ2
      | .brk ρ2 => .next ρ2
      | .ret r ρ2 => .ret r ρ2
      | .exc c ρ2 => .exc c ρ2
      | .stuck => .stuck
def evFor (os : List Opd) (mk : List PyData → Option (List PyData)) (t : Tg) (body : EvS) : EvS := fun ρ => match evOs os ρ with
  | .ok as ρ1 => (match looks ρ1 as with
    | some ds => (match mk ds with
      | some items => (forGo t body items (lks as ρ1)).on (uns as ρ1)
      | none => .stuck)
    | none => .stuck)
  | .exc c ρ1 => .exc c ρ1
  | .stuck => .stuck
section
variable {K : Kx} {W : WX} {al al' : Addr → Prop} {own own' own1 : Own} {ρ ρ' ρ1 : Env} {σ σ1 : St} {H H' H1 : Hp} {X : Cx} {pos : Pos} {D : Ends}
theorem Pre.lks (p : Pre K al own ρ σ H) (as : List Arg) : Pre K al own (lks as ρ) σ H := by
  induction as generalizing ρ with
  | nil => exact p
  | cons a as ih =>
    cases a with
    | pl j => exact ih (p.lock j)
    | sh d => exact ih p
theorem unlocks {as : List Arg} (p0 : Pre K al own ρ σ H) (p : Pre K al' own' ρ' σ1 H') (ha : ∀ i b, al b → own' i = some b → al' b) (s : Stp own (lks as ρ) H own' ρ' H') : Pre K al' own' (uns as ρ ρ') σ1 H' ∧ Stp own ρ H own' (uns as ρ ρ') H' := by
  induction as generalizing ρ with
  | nil => exact ⟨p, s⟩
  | cons a as ih =>
    cases a with
    | pl j =>
      obtain ⟨p2, s2⟩ := ih (p0.lock j) s
      exact unlock p0 p2 ha s2
    | sh d => exact ih p0 s
theorem Wr.lks {as : List Arg} {b : Addr} (h : Wr own (lks as ρ) b) : Wr own ρ b := by
  induction as generalizing ρ with
  | nil => exact h
  | cons a as ih =>
    cases a with
    | pl j => exact (ih h).lock
    | sh d => exact ih h
/-- what is locked may not be changed -/
theorem lock_nw {j : Nat} {a : Addr} (p : Pre K al own ρ σ H) (e : own j = some a) : ¬ Wr own (lock1 j ρ) a := by
  rintro ⟨i, s, e1, e2, e3⟩
  have ij : i = j := p.inj _ _ _ e1 e
  subst ij
  unfold lock1 at e2
  split at e2
  · rename_i t et
    split at e2
    · rcases getElem?_set_cases e2 with ⟨_, e4, _⟩ | ⟨h, _⟩
      · cases e4; cases e3
      · exact h rfl
    · rename_i hw
      rw [et] at e2
      cases e2
      exact hw e3
  · rename_i h
    exact h _ e2
theorem lks_nw {as : List Arg} {j : Nat} {a : Addr} (p : Pre K al own ρ σ H) (e : own j = some a) (hj : .pl j ∈ as) : ¬ Wr own (lks as ρ) a := by
  induction as generalizing ρ with
  | nil => cases hj
  | cons x as ih =>
    rcases List.mem_cons.mp hj with h | h
    · subst h
      intro w
      exact lock_nw p e (Wr.lks w)
    · cases x with
      | pl k => exact ih (p.lock k) h
      | sh d => exact ih p h
theorem OwV.there {Z : Addr → Prop} {v : V} {d : PyData} {a : Addr} (h : OwV K H Z v d a) : OwV K H (fun b => Z b ∧ H b ≠ none) v d a := by
  obtain ⟨e, ⟨vs, ds, as, h1, h2, h3, h4⟩ | ⟨o, vs, ds, as, h1, h2, h0, h3, h4⟩⟩ := h
  · exact ⟨e, .inl ⟨vs, ds, as, h1, h2, h3, fun b hb => ⟨h4 b hb, RpA.there _ _ _ h3 b hb⟩⟩⟩
  · exact ⟨e, .inr ⟨o, vs, ds, as, h1, h2, h0, h3, fun b hb => ⟨h4 b hb, RpK.there _ _ _ h3 b hb⟩⟩⟩
theorem ArgsOk.walk (p : Pre K al own ρ σ H) {all : List Arg} : ∀ {as : List Arg} {vs : List V} {ds : List PyData}, (∀ x ∈ as, x ∈ all) → ArgsOk K H al own σ as vs → Ev.looks ρ as = some ds → VwNA K H (fun b => Zf al own b ∧ H b ≠ none) (fun b => ¬ Wr own (lks all ρ) b) vs ds
  | [], [], ds, _, _, h => by simp [Ev.looks] at h; subst h; trivial
  | [], _ :: _, _, _, h, _ => h.elim
  | _ :: _, [], _, _, h, _ => h.elim
  | a :: as, v :: vs, ds, ha, ⟨h1, h2⟩, h => by
    simp only [Ev.looks] at h
    cases e : look ρ a with
    | none => simp [e] at h
    | some d =>
      cases q : Ev.looks ρ as with
      | none => simp [e, q] at h
      | some ds' =>
        simp [e, q] at h
        subst h
        refine ⟨?_, ArgsOk.walk p (fun x hx => ha x (by simp [hx])) h2 q⟩
        have sh : ∀ {d : PyData}, (∃ as, Rp K H v d as ∧ ∀ b ∈ as, Zf al own b) → VwN K H (fun b => Zf al own b ∧ H b ≠ none) (fun b => ¬ Wr own (lks all ρ) b) v d := fun ⟨as, r, z⟩ => .inl ⟨as, r, fun b hb => ⟨z b hb, Rp.there _ _ _ r b hb⟩⟩
        cases a with
        | sh d' => simp [look] at e; subst e; exact sh h1
        | pl i =>
          have hi : Arg.pl i ∈ all := ha _ (by simp)
          simp only [look] at e
          cases x : ρ[i]? with
          | none => simp [x] at e
          | some s =>
            cases s with
            | none => simp [x] at e
            | some s =>
              obtain ⟨v', e1, ok⟩ := p.sl i s x
              rw [show σ[i]? = some (some v) from h1] at e1
              cases e1
              cases s with
              | sh d => simp [x] at e; subst e; exact sh ok
              | ow d => simp [x] at e; subst e; obtain ⟨a, e2, o, _⟩ := ok; exact .inr ⟨a, o.there, lks_nw p e2 hi⟩
              | io d => simp [x] at e; subst e; obtain ⟨a, e2, o⟩ := ok; exact .inr ⟨a, o.there, lks_nw p e2 hi⟩
              | lk d => simp [x] at e; subst e; obtain ⟨a, e2, o⟩ := ok; exact .inr ⟨a, o.there, lks_nw p e2 hi⟩
              | ex a c => simp [x] at e
theorem OkS.on {as : List Arg} {D : Ends} {o : OutS} (p0 : Pre K al own ρ σ H) (h : OkS K W al own ρ H D (o.on (uns as ρ))) : OkS K W al own (lks as ρ) H D o := by
  cases o with
  | next r => exact fun σ' H' own' p s => let ⟨p2, s2⟩ := unlocks p0 p (fun _ _ h _ => h) s; h σ' H' own' p2 s2
  | brk r => exact fun σ' H' own' p s => let ⟨p2, s2⟩ := unlocks p0 p (fun _ _ h _ => h) s; h σ' H' own' p2 s2
  | cont r => exact fun σ' H' own' p s => let ⟨p2, s2⟩ := unlocks p0 p (fun _ _ h _ => h) s; h σ' H' own' p2 s2
  | exc c r => exact fun σ' H' own' p s => let ⟨p2, s2⟩ := unlocks p0 p (fun _ _ h _ => h) s; h σ' H' own' p2 s2
  | stuck => exact h
  | ret r ρ' =>
    cases r with
    | sh d => exact fun v σ' H' own' bs p s => let ⟨p2, s2⟩ := unlocks p0 p (fun _ _ h _ => h) s; h v σ' H' own' bs p2 s2
    | ow d => exact fun v σ' H' own' a p s o ha hf hw => let ⟨p2, s2⟩ := unlocks p0 p (fun i b h e => ⟨h, fun z => hf i (z ▸ e)⟩) s; h v σ' H' own' a p2 s2 o ha hf (hw.imp id Wr.lks)
theorem Stp.kept (p : Pre K al own ρ σ H) (s : Stp own ρ H own' ρ' H') : Kept H (fun b => ¬ Wr own ρ b) H' := ⟨Wr own ρ, s.keep, p.wrM, fun _ h => h⟩
theorem semFor {wi : List V → Hp → (It → Hp → Prop) → Prop} {mk : List PyData → Option (List PyData)} (it : ItOk K wi mk) {os : List Opd} {t : Tg} {body : EvS} (h : SemS K W (evFor os mk t body) D σ H) :
    SemOs K W os σ H fun vs H1 => wi vs H1 fun J H1 => ∃ W' : Nat → Nat → St → Hp → Prop, (∃ m, W' 0 m σ H1) ∧ ∀ i m σ H, W' i m σ H →
      (J.stop i H ∧ D.nx σ H) ∨ (J.go i H ∧ ∃ N : St → Hp → Prop, (∀ σ' H', N σ' H' → ∃ m', m' < m ∧ W' (i + 1) m' σ' H') ∧ ∀ x H', J.yld i H x H' → SemG K t x σ H' fun σ2 H2 => SemS K W body { D with nx := N, ct := N, bk := D.nx } σ2 H2) := by
  obtain ⟨al, own, ρ, p, h⟩ := h
  refine ⟨al, own, ρ, p, ?_⟩
  simp only [evFor] at h
  cases e : evOs os ρ with
  | stuck => simp only [e] at h; exact h
  | exc c ρ1 => simp only [e] at h ⊢; exact fun H' own' => h σ H' own'
  | ok as ρ1 =>
    simp only [e] at h ⊢
    intro vs H1 own1 p1 s1 ao
    cases e2 : looks ρ1 as with
    | none => simp only [e2] at h; exact h.elim
    | some ds =>
      simp only [e2] at h
      cases e3 : mk ds with
      | none => simp only [e3] at h; exact h.elim
      | some items =>
        simp only [e3] at h
        have h := OkS.on p1 (h.after s1)
        have pl := p1.lks as
        obtain ⟨J, B, Y, c1, c2, c3, c4, c5⟩ := it (fun b => Zf al own1 b ∧ H1 b ≠ none) (fun b => ¬ Wr own1 (lks as ρ1) b) H1 vs ds items (fun b z => z.1.2.wr) (ao.walk p1 (fun _ z => z) e2) e3
        refine c1 _ (for_it c2 (fun i σ2 H2 => ∃ own2 ρ2, Pre K al own2 ρ2 σ2 H2 ∧ Stp own1 (lks as ρ1) H1 own2 ρ2 H2 ∧ OkS K W al own2 ρ2 H2 D (forGo t body (items.drop i) ρ2)) ⟨own1, _, pl, .refl, by rw [List.drop_zero]; exact h⟩ (fun i σ2 H2 _ ⟨own2, ρ2, p2, s2, _⟩ => c4 H2 (s2.kept pl)) (fun i x σ2 H2 H3 hi ⟨own2, ρ2, p2, s2, q⟩ y => ?_) (fun σ2 H2 ⟨own2, ρ2, p2, s2, q⟩ => ?_))
        · obtain ⟨g, d, bs, r1, r2, r3⟩ := c5 i H2 x H3 hi (c4 H2 (s2.kept pl)) y
          have ed : items.drop i = d :: items.drop (i + 1) := by
            obtain ⟨_, r1'⟩ := List.getElem?_eq_some_iff.mp r1
            rw [← r1', List.getElem_cons_drop]
          rw [ed] at q
          simp only [forGo] at q
          have p3 := p2.grow g
          have z3 : ∀ b ∈ bs, Zf al own2 b := fun b hb => ⟨(r3 b hb).1.1, fun j q1 => (s2.nw j b q1).elim (fun ⟨k, q2⟩ => (r3 b hb).1.2 k q2) (r3 b hb).2⟩
          cases eb : bindT t d ρ2 with
          | none => simp only [eb] at q; exact q.elim
          | some ρ3 =>
            simp only [eb] at q
            refine ⟨al, own2, ρ2, d, bs, ρ3, p3, r2, z3, eb, fun σ4 own4 p4 s4 _ => ⟨al, own4, ρ3, p4, ?_⟩⟩
            have s5 := g.stp (own := own2) (ρ := ρ2) |>.trans s4
            cases ez : body ρ3 with
            | next ρ5 => simp only [ez] at q; exact fun σ6 H6 own6 p6 s6 => ⟨own6, ρ5, p6, s2.trans (s5.trans s6), q.after (s5.trans s6)⟩
            | cont ρ5 => simp only [ez] at q; exact fun σ6 H6 own6 p6 s6 => ⟨own6, ρ5, p6, s2.trans (s5.trans s6), q.after (s5.trans s6)⟩
            | brk ρ5 => simp only [ez] at q; exact OkS.after (o := .next ρ5) s5 q
            | ret r ρ5 => simp only [ez] at q; exact OkS.after (o := .ret r ρ5) s5 q
            | exc c ρ5 => simp only [ez] at q; exact OkS.after (o := .exc c ρ5) s5 q
            | stuck => simp only [ez] at q; exact q.elim
        · rw [List.drop_length] at q
          exact q σ2 H2 own2 p2 .refl
variable {tg iter a b : Expr} {body : List Stmt} {t : Tg} {fb : EvS} {o o2 : Opd}
theorem SemO.wi {o : Opd} {R : List V → Hp → Prop} (h : SemOs K W [o] σ H R) : SemO K W o σ H fun x H1 => R [x] H1 := sem1 h
end
end
end Ev
set_option Elab.async false
set_option linter.all false
set_option autoImplicit false
set_option maxRecDepth 100000
namespace Ev
open PySem PySem.Spec L2
open PyProof.Rows hiding St
noncomputable section
def wipeE (ρ : Env) : List Nat → Env
  | [] => ρ
  | v :: vs => (wipeE ρ vs).set v none
def keepSh : Option (Option Sl) → Option Sl
  | some (some (.sh d)) => some (.sh d)
  | _ => none
/-- the comprehension's own slots as they were ahead of it, if nobody changes them -/
def restE (ρ0 ρ : Env) : List Nat → Env
  | [] => ρ
  | v :: vs => (restE ρ0 ρ vs).set v (keepSh ρ0[v]?)
def calmB (ρ : Env) (vs : List Nat) : Bool := vs.all fun i => match ρ[i]? with
  | some (some (.sh _)) => true
  | some (some _) => false
  | _ => true
def lcGo (t : Tg) (vs : List Nat) (tt : Tv) (te : Ev) : List PyData → List PyData → Env → Out (List PyData)
  | [], acc, ρ => .ok acc ρ
  | d :: ds, acc, ρ => match bindT t d ρ with
    | none => .stuck
    | some ρ1 => match tt ρ1 with
      | .ok true ρ2 => (match te ρ2 with
        | .ok r ρ3 => lcGo t vs tt te ds (acc ++ [r.d]) (wipeE ρ3 vs)
        | _ => .stuck)
      | .ok false ρ2 => lcGo t vs tt te ds acc (wipeE ρ2 vs)
      | _ => .stuck
def evLc (os : List Opd) (mk : List PyData → Option (List PyData)) (t : Tg) (vs : List Nat) (tt : Tv) (te : Ev) : Ev := fun ρ => match evOs os ρ with
  | .ok as ρ1 => (match looks ρ1 as with
    | some ds => (match mk ds with
      | some items => if calmB ρ1 vs = true ∧ items.length ≤ lineN then (match lcGo t vs tt te items [] (wipeE (lks as ρ1) vs) with
        | .ok acc ρ2 => .ok (.ow (.list acc)) (restE ρ1 (uns as ρ1 ρ2) vs)
        | _ => .stuck) else .stuck
      | none => .stuck)
    | none => .stuck)
  | .exc c ρ1 => .exc c ρ1
  | .stuck => .stuck
def WF : WX := fun _ _ _ _ => False
section
variable {K : Kx} {W : WX} {al al' : Addr → Prop} {own own' own1 own0 : Own} {ρ ρ' ρ1 ρ0 : Env} {σ σ1 σ' : St} {H H' H1 H0 : Hp} {X : Cx} {pos : Pos} {vs : List Nat} {D : Addr}
theorem wipeE_length : ∀ (ρ : Env) (vs : List Nat), (wipeE ρ vs).length = ρ.length
  | _, [] => rfl
  | ρ, v :: vs => by unfold wipeE; rw [List.length_set, wipeE_length ρ vs]
theorem restE_length : ∀ (ρ0 ρ : Env) (vs : List Nat), (restE ρ0 ρ vs).length = ρ.length
  | _, _, [] => rfl
  | ρ0, ρ, v :: vs => by unfold restE; rw [List.length_set, restE_length ρ0 ρ vs]
theorem wipeE_some {i : Nat} {s : Sl} : ∀ {vs : List Nat}, (wipeE ρ vs)[i]? = some (some s) → ρ[i]? = some (some s) ∧ i ∉ vs
  | [], h => ⟨h, by simp⟩
  | v :: vs, h => by
    unfold wipeE at h
    rcases getElem?_set_cases h with ⟨_, e, _⟩ | ⟨hn, e⟩
    · cases e
    · obtain ⟨h1, h2⟩ := wipeE_some e
      exact ⟨h1, by simp [hn, h2]⟩
theorem wipeE_out {i : Nat} : ∀ {vs : List Nat}, i ∉ vs → (wipeE ρ vs)[i]? = ρ[i]?
  | [], _ => rfl
  | v :: vs, h => by
    simp only [List.mem_cons, not_or] at h
    unfold wipeE
    rw [List.getElem?_set_ne (Ne.symm h.1), wipeE_out h.2]
theorem restE_some {i : Nat} {s : Sl} : ∀ {vs : List Nat}, (restE ρ0 ρ vs)[i]? = some (some s) → (∃ d, s = .sh d ∧ ρ0[i]? = some (some (.sh d))) ∨ (ρ[i]? = some (some s) ∧ i ∉ vs)
  | [], h => .inr ⟨h, by simp⟩
  | v :: vs, h => by
    unfold restE at h
    rcases getElem?_set_cases h with ⟨rfl, e, _⟩ | ⟨hn, e⟩
    · have e := e.symm
      unfold keepSh at e
      split at e
      · rename_i d hd
        cases e
        exact .inl ⟨d, rfl, hd⟩
      · cases e
    · rcases restE_some e with h1 | ⟨h1, h2⟩
      · exact .inl h1
      · exact .inr ⟨h1, by simp [hn, h2]⟩
theorem restE_out {i : Nat} : ∀ {vs : List Nat}, i ∉ vs → (restE ρ0 ρ vs)[i]? = ρ[i]?
  | [], _ => rfl
  | v :: vs, h => by
    simp only [List.mem_cons, not_or] at h
    unfold restE
    rw [List.getElem?_set_ne (Ne.symm h.1), restE_out h.2]
theorem wipe_eq {is : List Nat} (a : Agr is (wipe σ vs) σ') (hs : ∀ i ∈ is, i ∈ vs) (hl : σ'.length = σ.length) : wipe σ' vs = wipe σ vs := by
  have inn : ∀ (τ : St) (vs : List Nat) (i : Nat), i ∈ vs → (wipe τ vs)[i]? = if i < τ.length then some none else none := by
    intro τ vs
    induction vs with
    | nil => intro i h; cases h
    | cons v vs ih =>
      intro i h
      unfold wipe
      by_cases e : v = i
      · subst e
        rw [List.getElem?_set, if_pos rfl, wipe_length]
      · rw [List.getElem?_set_ne e]
        rcases List.mem_cons.mp h with h | h
        · exact (e h.symm).elim
        · exact ih i h
  apply List.ext_getElem?
  intro i
  by_cases h : i ∈ vs
  · rw [inn _ _ _ h, inn _ _ _ h, hl]
  · have a := a i fun z => h (hs i z)
    rw [wipe_out h, a]
theorem Pre.wipe (p : Pre K al own ρ σ H) (vs : List Nat) : Pre K al own (wipeE ρ vs) (wipe σ vs) H := ⟨p.tb, p.fr, p.inj, p.mu, by rw [wipeE_length, wipe_length]; exact p.len, fun i s e => by
  obtain ⟨e1, hn⟩ := wipeE_some e
  obtain ⟨v, h1, h2⟩ := p.sl i s e1
  exact ⟨v, by rw [wipe_out hn]; exact h1, h2⟩⟩
/-- at vs nothing but what nobody changes -/
def CalmE (ρ : Env) (vs : List Nat) : Prop := ∀ i ∈ vs, ∀ s, ρ[i]? = some (some s) → ∃ d, s = .sh d
theorem calmB_ok (h : calmB ρ vs = true) : CalmE ρ vs := by
  intro i hi s e
  have h := List.all_eq_true.mp h i hi
  rw [e] at h
  cases s with
  | sh d => exact ⟨d, rfl⟩
  | ow d => cases h
  | io d => cases h
  | lk d => cases h
  | ex a c => cases h
theorem CalmE.lock (h : CalmE ρ vs) (j : Nat) : CalmE (lock1 j ρ) vs := by
  unfold lock1
  split
  · rename_i t et
    split
    · rename_i hw
      intro i hi s e
      rcases getElem?_set_cases e with ⟨rfl, _, _⟩ | ⟨_, e2⟩
      · obtain ⟨d, rfl⟩ := h _ hi t et
        cases hw
      · exact h i hi s e2
    · exact h
  · exact h
theorem CalmE.lks (h : CalmE ρ vs) (as : List Arg) : CalmE (lks as ρ) vs := by
  induction as generalizing ρ with
  | nil => exact h
  | cons a as ih =>
    cases a with
    | pl j => exact ih (h.lock j)
    | sh d => exact ih h
theorem Stp.wipe (s : Stp own ρ H own' ρ' H') (c : CalmE ρ vs) : Stp own ρ H own' (wipeE ρ' vs) H' where
  keep := s.keep
  dom := s.dom
  nw := s.nw
  fz := fun b ⟨i, x, e1, e2, e3⟩ => s.fz b ⟨i, x, e1, (wipeE_some e2).1, e3⟩
  lk := fun i d e => by
    have hi : i ∉ vs := fun h => by obtain ⟨_, z⟩ := c i h _ e; cases z
    obtain ⟨q1, q2⟩ := s.lk i d e
    exact ⟨by rw [wipeE_out hi]; exact q1, q2⟩
  io := fun i d e => by
    have hi : i ∉ vs := fun h => by obtain ⟨_, z⟩ := c i h _ e; cases z
    obtain ⟨⟨d', q1⟩, q2⟩ := s.io i d e
    exact ⟨⟨d', by rw [wipeE_out hi]; exact q1⟩, q2⟩
  ln := by rw [wipeE_length]; exact s.ln
theorem Stp.rest (s : Stp own ρ H own' ρ' H') (c : CalmE ρ vs) : Stp own ρ H own' (restE ρ0 ρ' vs) H' where
  keep := s.keep
  dom := s.dom
  nw := s.nw
  fz := fun b ⟨i, x, e1, e2, e3⟩ => by
    rcases restE_some e2 with ⟨d, rfl, _⟩ | ⟨e4, _⟩
    · cases e3
    · exact s.fz b ⟨i, x, e1, e4, e3⟩
  lk := fun i d e => by
    have hi : i ∉ vs := fun h => by obtain ⟨_, z⟩ := c i h _ e; cases z
    obtain ⟨q1, q2⟩ := s.lk i d e
    exact ⟨by rw [restE_out hi]; exact q1, q2⟩
  io := fun i d e => by
    have hi : i ∉ vs := fun h => by obtain ⟨_, z⟩ := c i h _ e; cases z
    obtain ⟨⟨d', q1⟩, q2⟩ := s.io i d e
    exact ⟨⟨d', by rw [restE_out hi]; exact q1⟩, q2⟩
  ln := by rw [restE_length]; exact s.ln
theorem Pre.rest (p0 : Pre K al own ρ σ H) (s : Stp own ρ H own' ρ' H') (p : Pre K (fun b => al b ∧ b ≠ D) own' ρ' (L2.wipe σ vs) H') (hD : H D = none) : Pre K (fun b => al b ∧ b ≠ D) own' (restE ρ ρ' vs) σ H' := ⟨p.tb, p.fr, p.inj, p.mu, by rw [restE_length, p.len, wipe_length], fun i x e => by
  rcases restE_some e with ⟨d, rfl, e1⟩ | ⟨e1, _⟩
  · obtain ⟨v, h1, as, r, z⟩ := p0.sl i _ e1
    obtain ⟨r', z'⟩ := s.rp p0 r z
    exact ⟨v, h1, as, r', fun b hb => ⟨⟨(z' b hb).1, fun q => Rp.there _ _ _ r b hb (q ▸ hD)⟩, (z' b hb).2⟩⟩
  · obtain ⟨v, h1, h2⟩ := p.sl i x e1
    exact ⟨v, (wipe_some h1).1, h2⟩⟩
theorem SlOk.upd {o o' : HO} (hD : H D = some o) (hm : Mut (some o)) (ha : ¬ al D) (hf : Free own D) {i : Nat} {s : Sl} {v : V} (h : SlOk K H al own i s v) : SlOk K (upd H D o') al own i s v := by
  have ne : ∀ b, Zf al own b → b ≠ D := fun b z e => ha (e ▸ z.1)
  have nx : ∀ {a : Addr}, own i = some a → a ≠ D := fun {a} e q => hf i (q ▸ e)
  cases s with
  | sh d => obtain ⟨as, r, z⟩ := h; exact ⟨as, upd_rp hD hm r fun b hb => ne b (z b hb), z⟩
  | ow d => obtain ⟨a, e, o, z⟩ := h; exact ⟨a, e, o.upd_other hD hm (nx e) ne, z⟩
  | io d => obtain ⟨a, e, o⟩ := h; exact ⟨a, e, o.upd_other hD hm (nx e) ne⟩
  | lk d => obtain ⟨a, e, o⟩ := h; exact ⟨a, e, o.upd_other hD hm (nx e) ne⟩
  | ex a c => exact h
theorem Pre.out {o o' : HO} (p : Pre K al own ρ σ H) (hD : H D = some o) (hm : Mut (some o)) (ha : ¬ al D) (hf : Free own D) (io : InsOk (some o) o' := by exact fun _ _ _ z => nomatch z) : Pre K al own ρ σ (upd H D o') where
  tb := p.tb.upd (fun x e => by rw [hD] at e; cases e; exact hm) (by rw [hD]; exact io)
  fr := fun b e => by
    by_cases hb : b = D
    · rw [hb, upd_same] at e; cases e
    · rw [upd_ne hb] at e; exact p.fr b e
  inj := p.inj
  mu := fun i a e => by
    have ne : a ≠ D := fun q => hf i (q ▸ e)
    rw [upd_ne ne]; exact p.mu i a e
  len := p.len
  sl := fun i s e => let ⟨v, h1, h2⟩ := p.sl i s e; ⟨v, h1, h2.upd hD hm ha hf⟩
theorem Stp.out {o' : HO} (s : Stp own ρ H own' ρ' H') (hn : H D = none) (hD : H' D ≠ none) : Stp own ρ H own' ρ' (upd H' D o') where
  keep := fun b o e w n => by rw [upd_ne (fun q => by rw [q, hn] at e; cases e)]; exact s.keep b o e w n
  dom := fun b e => by
    by_cases hb : b = D
    · rw [hb]; exact hn
    · rw [upd_ne hb] at e; exact s.dom b e
  nw := s.nw
  fz := s.fz
  lk := s.lk
  io := s.io
  ln := s.ln
theorem Free.after (f : Free own D) (hD : H D ≠ none) (s : Stp own ρ H own' ρ' H') : Free own' D := fun i e => (s.nw i D e).elim (fun ⟨j, q⟩ => f j q) hD
theorem Stp.rpA (s : Stp own ρ H own' ρ' H') (p : Pre K al own ρ σ H) {v : List V} {d : List PyData} {as : List Addr} (r : RpA K H v d as) (z : ∀ b ∈ as, Zf al own b) : RpA K H' v d as ∧ ∀ b ∈ as, Zf al own' b := by
  refine ⟨RpA.keep (W := Wr own ρ) s.keep p.wrM d v as r fun b hb => (z b hb).2.wr, fun b hb => ⟨(z b hb).1, fun i e => ?_⟩⟩
  rcases s.nw i b e with q | q
  · obtain ⟨j, q⟩ := q; exact (z b hb).2 j q
  · exact RpA.there d v as r b hb q
theorem semLc0 {wi : List V → Hp → (It → Hp → Prop) → Prop} {mk : List PyData → Option (List PyData)} (it : ItOk K wi mk) {os : List Opd} {t : Tg} {tt : Tv} {te : Ev} {Q : VK} (hvs : ∀ i ∈ t.ixs, i ∈ vs) (p : Pre K al own ρ σ H) (h : match evLc os mk t vs tt te ρ with
    | .ok r ρ' => OkE K al own ρ σ H Q r ρ'
    | .exc c ρ' => ExE K W al own ρ σ H c ρ'
    | .stuck => False) : match evOs os ρ with
    | .ok as ρ' => ∀ xs H1 own', Pre K al own' ρ' σ H1 → Stp own ρ H own' ρ' H1 → ArgsOk K H1 al own' σ as xs → wi xs H1 fun J H1 => ∀ D, H1 D = none → ∃ W' : Nat → Nat → Hp → Prop, (∃ m, W' 0 m (upd H1 D (.lst []))) ∧ ∀ i m H, W' i m H →
      (J.stop i H ∧ Q (.ref D) H) ∨ (J.go i H ∧ ∃ Nx : Hp → Prop, (∀ H', Nx H' → ∃ m', m' < m ∧ W' (i + 1) m' H') ∧ ∀ x H', J.yld i H x H' → SemG K t x (wipe σ vs) H' fun σ2 H2 => wipe σ2 vs = wipe σ vs ∧ SemT K WF tt σ2 H2 fun b H3 =>
        if b = true then SemE K WF te σ2 H3 fun y H4 => ∃ acc, H4 D = some (.lst acc) ∧ acc.length < sizeLine ∧ Nx (upd H4 D (.lst (acc ++ [y]))) else Nx H3)
    | .exc c ρ' => ExE K W al own ρ σ H c ρ'
    | .stuck => False := by
  simp only [evLc] at h
  cases e : evOs os ρ with
  | stuck => simp only [e] at h
  | exc c ρ1 => simp only [e] at h ⊢; exact h
  | ok as ρ1 =>
    simp only [e] at h ⊢
    intro xs H1 own1 p1 s1 ao
    cases e2 : looks ρ1 as with
    | none => simp only [e2] at h
    | some ds =>
      simp only [e2] at h
      cases e3 : mk ds with
      | none => simp only [e3] at h
      | some items =>
        simp only [e3] at h
        by_cases hc : calmB ρ1 vs = true ∧ items.length ≤ lineN
        · rw [if_pos hc] at h
          obtain ⟨hcal, hlen⟩ := hc
          have cal := calmB_ok hcal
          have cal2 := cal.lks as
          have pl := p1.lks as
          obtain ⟨J, B, Y, c1, c2, c3, c4, c5⟩ := it (fun b => Zf al own1 b ∧ H1 b ≠ none) (fun b => ¬ Wr own1 (lks as ρ1) b) H1 xs ds items (fun b z => z.1.2.wr) (ao.walk p1 (fun _ z => z) e2) e3
          refine c1 _ fun D hDn => ?_
          let G : Out (List PyData) → Prop := fun o => ∃ ds ρ3, o = .ok ds ρ3 ∧ OkE K al own1 ρ1 σ H1 Q (.ow (.list ds)) (restE ρ1 (uns as ρ1 ρ3) vs)
          have hG : G (lcGo t vs tt te items [] (wipeE (lks as ρ1) vs)) := by
            cases eq : lcGo t vs tt te items [] (wipeE (lks as ρ1) vs) with
            | ok ds3 ρ3 => simp only [eq] at h; exact ⟨ds3, ρ3, rfl, OkE.after s1 h⟩
            | exc c ρ3 => simp only [eq] at h
            | stuck => simp only [eq] at h
          clear h
          have nal : ¬ (fun b => al b ∧ b ≠ D) D := fun z => z.2 rfl
          refine lc_it c2 (fun i H2 => ∃ own2 ρ2 acc ds2 bs, H2 D = some (.lst acc) ∧ acc.length ≤ i ∧ RpA K H2 acc ds2 bs ∧ (∀ b ∈ bs, Zf (fun b => al b ∧ b ≠ D) own2 b) ∧ Free own2 D ∧ Pre K (fun b => al b ∧ b ≠ D) own2 ρ2 (wipe σ vs) H2 ∧ Stp own1 (lks as ρ1) H1 own2 ρ2 H2 ∧ G (lcGo t vs tt te (items.drop i) ds2 ρ2)) ?_ ?_ ?_ ?_
          · exact ⟨own1, wipeE (lks as ρ1) vs, [], [], [], upd_same, Nat.le_refl _, .nil, (fun _ z => nomatch z), (p1.freeN hDn).2, (pl.lay hDn).wipe vs, ((Grow.upd hDn).stp).wipe cal2, by rw [List.drop_zero]; exact hG⟩
          · exact fun i H2 _ ⟨own2, ρ2, acc, ds2, bs, _, _, _, _, _, _, s2, _⟩ => c4 H2 (s2.kept pl)
          · intro i x H2 H3 hi ⟨own2, ρ2, acc, ds2, bs, q1, q2, q3, q4, q5, p2, s2, g2⟩ y
            obtain ⟨g, d, cs, r1, r2, r3⟩ := c5 i H2 x H3 hi (c4 H2 (s2.kept pl)) y
            have ed : items.drop i = d :: items.drop (i + 1) := by
              obtain ⟨_, r1'⟩ := List.getElem?_eq_some_iff.mp r1
              rw [← r1', List.getElem_cons_drop]
            rw [ed] at g2
            simp only [lcGo] at g2
            have p3 := p2.grow g
            have z3 : ∀ b ∈ cs, Zf (fun b => al b ∧ b ≠ D) own2 b := fun b hb => ⟨⟨(r3 b hb).1.1, fun q => (r3 b hb).2 (q ▸ hDn)⟩, fun j q1 => (s2.nw j b q1).elim (fun ⟨k, q2⟩ => (r3 b hb).1.2 k q2) (r3 b hb).2⟩
            have hD3 := g.1 D _ q1
            cases eb : bindT t d ρ2 with
            | none => simp only [eb] at g2; obtain ⟨_, _, z, _⟩ := g2; cases z
            | some ρ3 =>
              simp only [eb] at g2
              refine ⟨_, own2, ρ2, d, cs, ρ3, p3, r2, z3, eb, fun σ4 own4 p4 s4 a4 => ?_⟩
              have hl : σ4.length = σ.length := by rw [← p4.len, s4.ln, p3.len, wipe_length]
              have we := wipe_eq a4 hvs hl
              refine ⟨we, _, own4, ρ3, p4, ?_⟩
              have f4 : Free own4 D := Free.after q5 (by rw [hD3]; exact fun z => nomatch z) s4
              have sv4 := g.stp (own := own2) (ρ := ρ2) |>.trans s4
              obtain ⟨ra4, za4⟩ := sv4.rpA p2 q3 q4
              cases et : tt ρ3 with
              | stuck => simp only [et] at g2; obtain ⟨_, _, z, _⟩ := g2; cases z
              | exc c ρ4 => simp only [et] at g2; obtain ⟨_, _, z, _⟩ := g2; cases z
              | ok b ρ4 =>
                simp only [et] at g2 ⊢
                intro H5 own5 p5 s5
                have hD5 := s5.keep D _ hD3 f4.wr (trivial)
                have f5 : Free own5 D := Free.after f4 (by rw [hD3]; exact fun z => nomatch z) s5
                obtain ⟨ra5, za5⟩ := s5.rpA p4 ra4 za4
                have st5 := s2.trans (sv4.trans s5)
                cases b with
                | false =>
                  simp only at g2
                  simp only [Bool.false_eq_true, if_false]
                  exact ⟨own5, wipeE ρ4 vs, acc, ds2, bs, hD5, by omega, ra5, za5, f5, by rw [← we]; exact p5.wipe vs, st5.wipe cal2, g2⟩
                | true =>
                  simp only at g2
                  simp only [if_true]
                  refine ⟨_, own5, ρ4, p5, ?_⟩
                  cases ee : te ρ4 with
                  | stuck => simp only [ee] at g2; obtain ⟨_, _, z, _⟩ := g2; cases z
                  | exc c ρ5 => simp only [ee] at g2; obtain ⟨_, _, z, _⟩ := g2; cases z
                  | ok r ρ5 =>
                    simp only [ee] at g2 ⊢
                    refine OkE.share fun y H6 own6 as6 p6 s6 r6 z6 => ?_
                    have hD6 := s6.keep D _ hD5 f5.wr (trivial)
                    have f6 : Free own6 D := Free.after f5 (by rw [hD5]; exact fun z => nomatch z) s6
                    obtain ⟨ra6, za6⟩ := s6.rpA p5 ra5 za5
                    have mu : Mut (some (HO.lst acc)) := by trivial
                    refine ⟨acc, hD6, by rw [line_eq]; omega, own6, wipeE ρ5 vs, acc ++ [y], ds2 ++ [r.d], bs ++ (as6 ++ []), upd_same, by rw [List.length_append]; simp; exact q2, ?_, ?_, f6, ?_, ?_, g2⟩
                    · refine RpA.append (upd_rpA hD6 mu ra6 fun b hb q => (za6 b hb).1.2 q) (.cons (upd_rp hD6 mu r6 fun b hb q => (z6 b hb).1.2 q) .nil)
                    · intro b hb
                      rcases List.mem_append.mp hb with hb | hb
                      · exact za6 b hb
                      · rw [List.append_nil] at hb; exact z6 b hb
                    · rw [← we]; exact (p6.out hD6 mu nal f6).wipe vs
                    · exact ((st5.trans s6).out hDn (by rw [hD6]; exact fun z => nomatch z)).wipe cal2
          · rintro H2 ⟨own2, ρ2, acc, ds2, bs, q1, q2, q3, q4, q5, p2, s2, g2⟩
            rw [List.drop_length] at g2
            obtain ⟨ds3, ρ3, eo, ok⟩ := g2
            simp only [lcGo] at eo
            cases eo
            obtain ⟨p3, s3⟩ := unlocks p1 p2 (fun i b h e => ⟨h, fun z => q5 i (z ▸ e)⟩) s2
            exact ok (.ref D) H2 own2 D (Pre.rest p1 s3 p3 hDn) (s3.rest cal) ⟨rfl, .inl ⟨acc, ds2, bs, rfl, q1, q3, q4⟩⟩ (p1.fr D hDn) q5 (.inl hDn)
        · rw [if_neg hc] at h; exact h.elim
theorem semLc {wi : List V → Hp → (It → Hp → Prop) → Prop} {mk : List PyData → Option (List PyData)} (it : ItOk K wi mk) {os : List Opd} {t : Tg} {tt : Tv} {te : Ev} {Q : VK} (hvs : ∀ i ∈ t.ixs, i ∈ vs) (h : SemE K W (evLc os mk t vs tt te) σ H Q) :
    SemOs K W os σ H fun xs H1 => wi xs H1 fun J H1 => ∀ D, H1 D = none → ∃ W' : Nat → Nat → Hp → Prop, (∃ m, W' 0 m (upd H1 D (.lst []))) ∧ ∀ i m H, W' i m H →
      (J.stop i H ∧ Q (.ref D) H) ∨ (J.go i H ∧ ∃ Nx : Hp → Prop, (∀ H', Nx H' → ∃ m', m' < m ∧ W' (i + 1) m' H') ∧ ∀ x H', J.yld i H x H' → SemG K t x (wipe σ vs) H' fun σ2 H2 => wipe σ2 vs = wipe σ vs ∧ SemT K WF tt σ2 H2 fun b H3 =>
        if b = true then SemE K WF te σ2 H3 fun y H4 => ∃ acc, H4 D = some (.lst acc) ∧ acc.length < sizeLine ∧ Nx (upd H4 D (.lst (acc ++ [y]))) else Nx H3) := by
  obtain ⟨al, own, ρ, p, h⟩ := h
  exact ⟨al, own, ρ, p, semLc0 it hvs p h⟩
variable {elt tg iter a b : Expr} {ifs : List Expr} {scope : Scope} {blk : List (Str × Nat)} {t : Tg} {tt : Tv} {te : Ev} {o o2 : Opd}
def tvYes : Tv := fun ρ => .ok true ρ
theorem pts_0 : PTs X [] (SemT X.kx W tvYes) := by
  refine ⟨fun pins s σ H Q I ⟨al, own, ρ, p, h⟩ => pts_nil.run pins s σ H Q I ?_⟩
  exact h H own p .refl
/-- what stands within the brackets -/
structure Blk (X : Cx) (scope : Scope) (blk : List (Str × Nat)) (tg elt : Expr) (ifs : List Expr) (t : Tg) (tt : Tv) (te : Ev) : Prop where
  ok : BlkOk X.N X.env.scope scope blk
  g : ∀ (s : Shared) (H : Hp) (C : Addr) (cl : List (Str × Addr)) (fp : List Addr), PG (X.blk s H scope (compEnvC scope cl C X.env) fp) tg (SemG X.kx t)
  c : ∀ (s : Shared) (H : Hp) (C : Addr) (cl : List (Str × Addr)) (fp : List Addr), PTs (X.blk s H scope (compEnvC scope cl C X.env) fp) ifs (SemT X.kx WF tt)
  e : ∀ (s : Shared) (H : Hp) (C : Addr) (cl : List (Str × Addr)) (fp : List Addr), PE (X.blk s H scope (compEnvC scope cl C X.env) fp) elt (SemE X.kx WF te)
  v : ∀ i ∈ t.ixs, i ∈ blk.map (·.2)
end
end
end Ev
set_option Elab.async false
set_option linter.all false
set_option autoImplicit false
set_option maxRecDepth 100000
namespace Ev
open PySem PySem.Spec L2
open PyProof.Rows hiding St
noncomputable section
abbrev Wi := List V → Hp → (It → Hp → Prop) → Prop
/-- operands os, plain walk mk, of the iterable text -/
def Src (X : Cx) (W : WX) (tg iter : Expr) (os : List Opd) (mk : List PyData → Option (List PyData)) : Prop :=
  ∃ (wi : TI) (wi' : Wi), PI X tg iter wi ∧ ItOk X.kx wi' mk ∧ ∀ σ H R, SemOs X.kx W os σ H (fun vs H1 => wi' vs H1 R) → wi σ H R
section
variable {K : Kx} {W : WX} {X : Cx} {pos p : Pos} {tg iter a b c : Expr} {body : List Stmt} {t : Tg} {fb : EvS} {o o2 o3 : Opd} {os : List Opd} {mk : List PyData → Option (List PyData)} {D : Ends} {σ : St} {H : Hp}
theorem s_for (hp : PassesOwn (model X.prog X.w) X.A X.env X.xe) (hc : X.calm = true) (S : Src X W tg iter os mk) (hg : PG X tg (SemG X.kx t)) (hb : PSs X body (SemS X.kx W fb)) (hs : ∀ x, foldedSetIterable iter X.env x = pure x := by intro _; rfl) :
    PS X (.For tg iter body [] pos) (SemS X.kx W (evFor os mk t fb)) := by
  obtain ⟨wi, wi', h1, h2, h3⟩ := S
  exact PS.imp (ps_for hp hc h1 hg hb hs) fun D σ H h => h3 σ H _ (semFor h2 h)
variable {elt : Expr} {ifs : List Expr} {scope : Scope} {blk : List (Str × Nat)} {tt : Tv} {te : Ev}
theorem pe_lcE (hc : X.calm = true) (hN : X.N.Nodup) (S : Src X W tg iter os mk) (B : Blk X scope blk tg elt ifs t tt te) (hs : ∀ x, foldedSetIterable iter X.env x = pure x := by intro _; rfl) :
    PE X (.ListComp elt [⟨tg, iter, ifs, 0⟩] scope pos) (SemE X.kx W (evLc os mk t (blk.map (·.2)) tt te)) := by
  obtain ⟨wi, wi', h1, h2, h3⟩ := S
  exact PE.imp (pe_lc hc hN h1 B.ok B.g B.c B.e hs) fun σ H Q h => h3 σ H _ (semLc h2 B.v h)
/-- any of list, tuple, text -/
def signs (z : Str) : List PyData := z.cps.toList.map fun c => .str ⟨#[c]⟩
def kSeq : List PyData → Option (List PyData)
  | [.list ds] => some ds
  | [.tuple ds] => some ds
  | [.str z] => some (signs z)
  | _ => none
theorem ItOk.or {w1 w2 : Wi} {k1 k2 k : List PyData → Option (List PyData)} (h1 : ItOk K w1 k1) (h2 : ItOk K w2 k2) (hk : ∀ ds items, k ds = some items → k1 ds = some items ∨ k2 ds = some items) : ItOk K (fun vs H R => w1 vs H R ∨ w2 vs H R) k := by
  intro Z N H vs ds items hz hv h
  rcases hk ds items h with h | h
  · obtain ⟨J, B, Y, c1, c2⟩ := h1 Z N H vs ds items hz hv h
    exact ⟨J, B, Y, fun R q => .inl (c1 R q), c2⟩
  · obtain ⟨J, B, Y, c1, c2⟩ := h2 Z N H vs ds items hz hv h
    exact ⟨J, B, Y, fun R q => .inr (c1 R q), c2⟩
def kStr : List PyData → Option (List PyData)
  | [.str z] => some (signs z)
  | _ => none
theorem it_str : ItOk K (fun vs H R => ∃ z, vs = [.str z] ∧ R (Its z) H) kStr := by
  intro Z N H vs ds items hz hv h
  unfold kStr at h
  split at h
  · rename_i z
    cases h
    obtain ⟨x, rfl, hx⟩ := hv.one
    refine ⟨Its z, fun _ => True, fun i H v H' => H' = H ∧ ∃ c, z.cps[i]? = some c ∧ v = .str ⟨#[c]⟩, fun R q => ⟨z, by rw [hx.str], q⟩, ?_, trivial, fun _ _ => trivial, fun i H2 x H3 hi _ y => ?_⟩
    · show Walk (Its z) (signs z).length _ _
      rw [show (signs z).length = z.cps.size by simp [signs]]
      exact walk_str
    · obtain ⟨rfl, cc, h1, rfl⟩ := y
      refine ⟨.refl, .str ⟨#[cc]⟩, [], ?_, .str _, fun _ z => nomatch z⟩
      simp only [signs, List.getElem?_map, Array.getElem?_toList, h1, Option.map_some]
  · cases h
def iSeq (K : Kx) (tl : TE) : TI := fun σ H R => tl σ H fun x H1 => ((∃ a, x = .ref a ∧ (∃ xs, SqL K H1 a xs) ∧ R (Itl K a) H1) ∨ (∃ a, x = .ref a ∧ (∃ xs, SqT K H1 a xs) ∧ R (Itt K a) H1)) ∨ (∃ z, x = .str z ∧ R (Its z) H1)
theorem pi_seq {l : Expr} {tl : TE} (hl : PE X l tl) : PI X tg l (iSeq X.kx tl) := by
  refine ⟨fun pins s σ H R I h => ?_⟩
  refine thn (hl.run pins s σ H _ I h) fun v s1 ⟨x, H1, I1, r1, q1⟩ => ?_
  rcases q1 with (⟨a, e, ⟨xs, hq⟩, q⟩ | ⟨a, e, ⟨xs, hq⟩, q⟩) | ⟨z, e, q⟩
  · subst e
    cases r1
    obtain ⟨its, rv, p, hz⟩ := I1.list hq
    refine wpAny_pyIter_list p.isList ?_
    refine ⟨s1.heap.objs.size, [s1.heap.objs.size], _, _, H1, rfl, I1.kept (t' := s1.toks) fun b o e => Heap.get?_push_of_some _ e, turn_list a _, ⟨_, Heap.get?_push_size _ rfl, rfl, rfl⟩, fun b hb => ?_, q⟩
    have e : b = s1.heap.objs.size := by simpa using hb
    subst e
    exact I1.fpOk (Nat.le_refl _) (I1.hok.fresh (Nat.le_refl _))
  · subst e
    cases r1
    obtain ⟨its, rv, p, hz⟩ := I1.tuple hq
    refine wpAny_pyIter_tuple (show s1.heap.IsTuple a its.toArray from p) ?_
    refine ⟨s1.heap.objs.size, [s1.heap.objs.size], _, _, H1, rfl, I1.kept (t' := s1.toks) fun b o e => Heap.get?_push_of_some _ e, turn_tuple a _, ⟨_, Heap.get?_push_size _ rfl, rfl, rfl⟩, fun b hb => ?_, q⟩
    have e : b = s1.heap.objs.size := by simpa using hb
    subst e
    exact I1.fpOk (Nat.le_refl _) (I1.hok.fresh (Nat.le_refl _))
  · subst e
    obtain ⟨t, rfl⟩ := r1
    cases ha : z.cps.all (· < 128)
    · exact wpAny_pyIter_wide ha (pi_one (tk := s1.toks) I1 _ (turn_str _ z t "str_iterator" (.inr rfl)) ⟨_, Heap.get?_push_size _ rfl, rfl, rfl⟩ q)
    · exact wpAny_pyIter_ascii ha (pi_one (tk := s1.toks) I1 _ (turn_str _ z t "str_ascii_iterator" (.inl rfl)) ⟨_, Heap.get?_push_size _ rfl, rfl, rfl⟩ q)
def kLT : List PyData → Option (List PyData)
  | [.list ds] => some ds
  | [.tuple ds] => some ds
  | _ => none
theorem it_lt : ItOk K (fun vs H R => wiList K vs H R ∨ wiTup K vs H R) kLT := ItOk.or it_list it_tup fun ds items h => by
  unfold kLT at h
  split at h
  · exact .inl h
  · exact .inr h
  · cases h
theorem it_seq : ItOk K (fun vs H R => (wiList K vs H R ∨ wiTup K vs H R) ∨ ∃ z, vs = [.str z] ∧ R (Its z) H) kSeq := ItOk.or it_lt it_str fun ds items h => by
  unfold kSeq at h
  split at h
  · exact .inl h
  · exact .inl h
  · exact .inr h
  · cases h
theorem src_seq (h : PE X iter (SemO X.kx W o)) : Src X W tg iter [o] kSeq := ⟨_, _, pi_seq h, it_seq, fun σ H R h => SemO.mono (sem1 h) fun v H1 q => by
  rcases q with (⟨x, e, a, e2, q⟩ | ⟨x, e, a, e2, q⟩) | ⟨z, e, q⟩
  · cases e; exact .inl (.inl ⟨a, e2, q⟩)
  · cases e; exact .inl (.inr ⟨a, e2, q⟩)
  · cases e; exact .inr ⟨z, rfl, q⟩⟩
theorem src_r1 (hg : Gl X "range") (hm : X.mg "range" = none) (ha : PA X [a] (SemOs X.kx W [o])) (hs : starEach [a] X.env = [(false, eval a X.env)] := by rfl) : Src X W tg (.Call (.Name "range" p) [a] [] pos) [o] kRange1 :=
  ⟨_, _, pi_range1 hg hm ha hs, it_range1, fun σ H R h => h⟩
def kEnumT : List PyData → Option (List PyData)
  | [.tuple ds] => some (enumD ds)
  | _ => none
theorem it_enumT : ItOk K (fun vs H R => ∃ a xs, vs = [.ref a] ∧ SqT K H a xs ∧ R (IteT K a) H) kEnumT := by
  intro Z N H vs ds items hz hv h
  unfold kEnumT at h
  split at h
  · rename_i ds'
    cases h
    obtain ⟨x, rfl, hx⟩ := hv.one
    obtain ⟨a, vs, as, rfl, h1, r, z⟩ := hx.tuple
    refine ⟨IteT K a, fun H2 => SqT K H2 a vs ∧ RpA K H2 vs ds' as, YPairF (fun i => some (.int (i : Nat))) (fun i => vs[i]?), fun R q => ⟨a, vs, rfl, h1, q⟩, ?_, ⟨h1, r⟩, fun H2 k => ⟨k.sqT h1, k.rpA r fun b hb => hz b (z b hb)⟩, ?_⟩
    · rw [enumD_length, ← r.length]; exact walk_enumT.mono (fun H h => h.1) fun i H x H' _ _ y => y
    · rintro i H2 x H3 hi ⟨g, r2⟩ ⟨T, o, x1, y1, rfl, hT, hd, rfl, e1, e2⟩
      rw [enumD_length] at hi
      cases e1
      obtain ⟨d, bs, q1, q2, q3⟩ := item_of r2 z hi e2
      obtain ⟨g2, cs, q4, q5⟩ := pair_rpF (Z := Z) hT hd (.int (i : Int)) (fun _ z => nomatch z) q2 q3
      exact ⟨g2, _, cs, enumD_get q1, q4, q5⟩
  · cases h
def kEnumL : List PyData → Option (List PyData)
  | [.list ds] => some (enumD ds)
  | _ => none
theorem it_enumL : ItOk K (fun vs H R => ∃ a xs, vs = [.ref a] ∧ SqL K H a xs ∧ R (IteL K a) H) kEnumL := by
  intro Z N H vs ds items hz hv h
  unfold kEnumL at h
  split at h
  · rename_i ds'
    cases h
    obtain ⟨x, rfl, hx⟩ := hv.one
    obtain ⟨a, vs, as, rfl, h1, n, r, z⟩ := hx.list hz
    refine ⟨IteL K a, fun H2 => SqL K H2 a vs ∧ RpA K H2 vs ds' as, YPairF (fun i => some (.int (i : Nat))) (fun i => vs[i]?), fun R q => ⟨a, vs, rfl, h1, q⟩, ?_, ⟨h1, r⟩, fun H2 k => ⟨n H2 k, k.rpA r fun b hb => hz b (z b hb)⟩, ?_⟩
    · rw [enumD_length, ← r.length]; exact walk_enumL.mono (fun H h => h.1) fun i H x H' _ _ y => y
    · rintro i H2 x H3 hi ⟨g, r2⟩ ⟨T, o, x1, y1, rfl, hT, hd, rfl, e1, e2⟩
      rw [enumD_length] at hi
      cases e1
      obtain ⟨d, bs, q1, q2, q3⟩ := item_of r2 z hi e2
      obtain ⟨g2, cs, q4, q5⟩ := pair_rpF (Z := Z) hT hd (.int (i : Int)) (fun _ z => nomatch z) q2 q3
      exact ⟨g2, _, cs, enumD_get q1, q4, q5⟩
  · cases h
def kEnumS : List PyData → Option (List PyData)
  | [.list ds] => some (enumD ds)
  | [.tuple ds] => some (enumD ds)
  | _ => none
def iEnumS (K : Kx) (ta : TA) : TI := fun σ H R => ta σ H fun vs H1 => (∃ a xs, vs = [.ref a] ∧ SqL K H1 a xs ∧ R (IteL K a) H1) ∨ (∃ a xs, vs = [.ref a] ∧ SqT K H1 a xs ∧ R (IteT K a) H1)
theorem pi_enumS {e : Expr} {ta : TA} {tpos : Pos} {elts : List Expr} {kk : Nat} (hg : Gl X "enumerate") (hm : X.mg "enumerate" = none) (ha : PA X [e] ta) (hs : starEach [e] X.env = [(false, eval e X.env)] := by rfl) :
    PI X (.Tuple elts kk tpos) (.Call (.Name "enumerate" p) [e] [] pos) (iEnumS X.kx ta) := by
  refine ⟨fun pins s σ H R I h => ?_⟩
  refine Call_ (ld_blt I hg hm boot_enumerate (PyProof.Rows.callWith_type1 (thn (ha.run pos pins s σ H _ I h) fun us s1 ⟨vs, H1, I1, r1, q1⟩ => ?_) hs rfl))
  rcases q1 with ⟨a, xs, ex, hq, q⟩ | ⟨a, xs, ex, hq, q⟩
  · subst ex
    cases r1 with
    | cons r rr =>
      cases rr
      cases r
      obtain ⟨its, rv, p', hz⟩ := I1.list hq
      refine call_enumerate_list p'.isList fun h' he hit hsz hk => wpAny_pyIter_enum he ?_
      have I2 : Inv X pins σ H1 { s1 with heap := h' } := I1.kept (t' := s1.toks) hk
      refine ⟨s1.heap.objs.size + 1, [s1.heap.objs.size + 1, s1.heap.objs.size], _, _, H1, rfl, I2, turn_enumL a (s1.heap.objs.size + 1) s1.heap.objs.size, ⟨⟨.none, he⟩, hit, Nat.succ_ne_self _⟩, fun b hb => ?_, q⟩
      have e' : b = s1.heap.objs.size + 1 ∨ b = s1.heap.objs.size := by simpa using hb
      have hle : s1.heap.objs.size ≤ b := by
        rcases e' with z | z
        · rw [z]; exact Nat.le_add_right _ _
        · rw [z]; exact Nat.le_refl _
      exact I1.fpOk hle (I1.hok.fresh hle)
  · subst ex
    cases r1 with
    | cons r rr =>
      cases rr
      cases r
      obtain ⟨its, rv, p', hz⟩ := I1.tuple hq
      have p2 : s1.heap.IsTuple a its.toArray := p'
      have al : a < s1.heap.objs.size := by obtain ⟨o, e, _⟩ := p2; exact Heap.lt_size e
      refine call_enum_tup p2 fun h' he hit hsz hk => wpAny_pyIter_enum he ?_
      have I2 : Inv X pins σ H1 { s1 with heap := h' } := I1.kept (t' := s1.toks) hk
      refine ⟨s1.heap.objs.size + 1, [s1.heap.objs.size + 1, s1.heap.objs.size], _, _, H1, rfl, I2, turn_enumT a (s1.heap.objs.size + 1) s1.heap.objs.size, ⟨⟨.none, he⟩, hit, Nat.succ_ne_self _, Nat.ne_of_lt al, Nat.ne_of_lt (Nat.lt_succ_of_lt al)⟩, fun b hb => ?_, q⟩
      have e' : b = s1.heap.objs.size + 1 ∨ b = s1.heap.objs.size := by simpa using hb
      have hle : s1.heap.objs.size ≤ b := by
        rcases e' with z | z
        · rw [z]; exact Nat.le_add_right _ _
        · rw [z]; exact Nat.le_refl _
      exact I1.fpOk hle (I1.hok.fresh hle)
theorem it_enumS : ItOk K (fun vs H R => (∃ a xs, vs = [.ref a] ∧ SqL K H a xs ∧ R (IteL K a) H) ∨ (∃ a xs, vs = [.ref a] ∧ SqT K H a xs ∧ R (IteT K a) H)) kEnumS := ItOk.or it_enumL it_enumT fun ds items h => by
  unfold kEnumS at h
  split at h
  · exact .inl h
  · exact .inr h
  · cases h
theorem src_enum {tpos : Pos} {elts : List Expr} {kk : Nat} (hg : Gl X "enumerate") (hm : X.mg "enumerate" = none) (ha : PA X [a] (SemOs X.kx W [o])) (hs : starEach [a] X.env = [(false, eval a X.env)] := by rfl) : Src X W (.Tuple elts kk tpos) (.Call (.Name "enumerate" p) [a] [] pos) [o] kEnumS :=
  ⟨_, _, pi_enumS hg hm ha hs, it_enumS, fun σ H R h => h⟩
end
end
end Ev
set_option Elab.async false
set_option linter.all false
set_option autoImplicit false
set_option maxRecDepth 100000
namespace Ev
open PySem PySem.Spec L2
open PyProof.Rows hiding St
noncomputable section
abbrev FnV := List Sl → OutS
/-- the slots at a def's entry; k: the names beyond the parameters -/
def entry (ss : List Sl) (k : Nat) : Env := ss.map some ++ List.replicate k none
/-- what a def leaves of its slots: the caller's lists, the walked ones -/
def keepIo : Option Sl → Option Sl
  | some (.io d) => some (.io d)
  | some (.lk d) => some (.lk d)
  | _ => none
def trimE (ρ : Env) : Env := ρ.map keepIo
def trimO : OutS → OutS
  | .ret r ρ => .ret r (trimE ρ)
  | .next ρ => .next (trimE ρ)
  | .exc c ρ => .exc c (trimE ρ)
  | .brk _ => .stuck
  | .cont _ => .stuck
  | .stuck => .stuck
def mkF (k : Nat) (fb : EvS) : FnV := fun ss => trimO (fb (entry ss k))
def FnQ (K : Kx) (Z : Addr → Prop) (own : Own) (ρ : Env) (H : Hp) (Q : VK) (E : XK) : OutS → Prop
  | .ret r ρ' => RtS K Z own ρ H Q r ρ'
  | .next ρ' => NxS K Z own ρ H (fun _ H' => Q .non H') ρ'
  | .exc c ρ' => ∀ σ' H' own', Pre K Z own' ρ' σ' H' → Stp own ρ H own' ρ' H' → E (.ref (He.ga K c)) none H'
  | _ => False
def spV (K : Kx) (n k : Nat) (F : FnV) : Sp := fun vs H Q E => vs.length = n ∧ ∃ Z own ss, Pre K Z own (entry ss k) (vs.map some ++ List.replicate k none) H ∧ FnQ K Z own (entry ss k) H Q E (F ss)
section
variable {K : Kx} {al : Addr → Prop} {own own' own0 : Own} {ρ ρ' ρ0 : Env} {σ σ' : St} {H H' H0 : Hp}
theorem keepIo_some {x : Option Sl} {s : Sl} (h : keepIo x = some s) : x = some s ∧ ((∃ d, s = .io d) ∨ ∃ d, s = .lk d) := by
  cases x with
  | none => cases h
  | some t => cases t <;> first | (cases h; done) | (cases h; exact ⟨rfl, .inl ⟨_, rfl⟩⟩) | (cases h; exact ⟨rfl, .inr ⟨_, rfl⟩⟩)
theorem trimE_get {i : Nat} {s : Sl} (h : (trimE ρ)[i]? = some (some s)) : ρ[i]? = some (some s) ∧ ((∃ d, s = .io d) ∨ ∃ d, s = .lk d) := by
  unfold trimE at h
  rw [List.getElem?_map] at h
  cases e : ρ[i]? with
  | none => rw [e] at h; cases h
  | some x =>
    rw [e] at h
    obtain ⟨q, z⟩ := keepIo_some (Option.some.inj h)
    exact ⟨by rw [q], z⟩
theorem trimE_io {i : Nat} {d : PyData} (h : ρ[i]? = some (some (.io d))) : (trimE ρ)[i]? = some (some (.io d)) := by
  unfold trimE
  rw [List.getElem?_map, h]
  rfl
theorem trimE_lk {i : Nat} {d : PyData} (h : ρ[i]? = some (some (.lk d))) : (trimE ρ)[i]? = some (some (.lk d)) := by
  unfold trimE
  rw [List.getElem?_map, h]
  rfl
def Own.trim (own : Own) (ρ : Env) : Own := fun j => match (trimE ρ)[j]? with
  | some (some _) => own j
  | _ => none
theorem Own.trim_some {j : Nat} {a : Addr} (h : own.trim ρ j = some a) : own j = some a := by
  unfold Own.trim at h
  split at h
  · exact h
  · cases h
theorem Own.trim_at {j : Nat} {s : Sl} (h : (trimE ρ)[j]? = some (some s)) : own.trim ρ j = own j := by
  unfold Own.trim
  rw [h]
theorem Free.trim {b : Addr} (h : Free own b) : Free (own.trim ρ) b := fun j e => h j (Own.trim_some e)
theorem Zf.trim {b : Addr} (h : Zf al own b) : Zf al (own.trim ρ) b := ⟨h.1, h.2.trim⟩
theorem Pre.trim (p : Pre K al own ρ σ H) : Pre K al (own.trim ρ) (trimE ρ) σ H := by
  refine ⟨p.tb, p.fr, fun i j a e1 e2 => p.inj i j a (Own.trim_some e1) (Own.trim_some e2), fun i a e => p.mu i a (Own.trim_some e), by rw [trimE, List.length_map]; exact p.len, fun i s e => ?_⟩
  obtain ⟨e1, k⟩ := trimE_get e
  obtain ⟨v, h1, h2⟩ := p.sl i s e1
  refine ⟨v, h1, ?_⟩
  have eo := Own.trim_at (own := own) e
  rcases k with ⟨d, rfl⟩ | ⟨d, rfl⟩
  · obtain ⟨a, q, o⟩ := h2
    exact ⟨a, by rw [eo]; exact q, o.mono fun b hb => hb.trim⟩
  · obtain ⟨a, q, o⟩ := h2
    exact ⟨a, by rw [eo]; exact q, o.mono fun b hb => hb.trim⟩
theorem Stp.trim (s : Stp own0 ρ0 H0 own ρ H) : Stp own0 ρ0 H0 (own.trim ρ) (trimE ρ) H where
  keep := s.keep
  dom := s.dom
  nw := fun i a e => s.nw i a (Own.trim_some e)
  fz := fun b ⟨i, x, e1, e2, e3⟩ => s.fz b ⟨i, x, Own.trim_some e1, (trimE_get e2).1, e3⟩
  lk := fun i d e => by
    obtain ⟨q1, q2⟩ := s.lk i d e
    have z := trimE_lk q1
    exact ⟨z, (Own.trim_at z).trans q2⟩
  io := fun i d e => by
    obtain ⟨⟨d', q1⟩, q2⟩ := s.io i d e
    have z := trimE_io q1
    exact ⟨⟨d', z⟩, (Own.trim_at z).trans q2⟩
  ln := by rw [trimE, List.length_map]; exact s.ln
theorem RtS.untrim {Q : VK} {r : Res} (h : RtS K al own0 ρ0 H0 Q r (trimE ρ')) : RtS K al own0 ρ0 H0 Q r ρ' := by
  cases r with
  | sh d => exact fun v σ' H' own' as p s r z => h v σ' H' _ as p.trim s.trim r fun b hb => (z b hb).trim
  | ow d => exact fun v σ' H' own' a p s o ha hf hw => h v σ' H' _ a p.trim s.trim (o.mono fun b hb => hb.trim) ha hf.trim hw
theorem FnQ.untrim {Q : VK} {E : XK} {o : OutS} (h : FnQ K al own0 ρ0 H0 Q E (trimO o)) : FnQ K al own0 ρ0 H0 Q E o := by
  cases o with
  | ret r ρ' => exact RtS.untrim h
  | next ρ' => exact fun σ' H' own' p s => h σ' H' _ p.trim s.trim
  | exc c ρ' => exact fun σ' H' own' p s => h σ' H' _ p.trim s.trim
  | brk ρ' => exact h
  | cont ρ' => exact h
  | stuck => exact h
end
def argSl (ρ : Env) : Arg → Option Sl
  | .sh d => some (.sh d)
  | .pl i => match ρ[i]? with
    | some (some (.ow d)) => some (.io d)
    | some (some s) => some s
    | _ => none
def argSls (ρ : Env) : List Arg → Option (List Sl)
  | [] => some []
  | a :: as => match argSl ρ a, argSls ρ as with
    | some s, some ss => some (s :: ss)
    | _, _ => none
def clash (ρ : Env) : Arg → Arg → Bool
  | .pl i, .pl j => i == j && (match ρ[i]? with
    | some (some (.sh _)) => false
    | _ => true)
  | _, _ => false
def apart (ρ : Env) : List Arg → Bool
  | [] => true
  | a :: as => as.all (fun b => !clash ρ a b) && apart ρ as
/-- the caller's slots behind the call -/
def backA : List Arg → Env → Env → Option Env
  | [], _, ρ => some ρ
  | .pl i :: as, x :: xs, ρ => (match ρ[i]? with
    | some (some s) => if s.wr = true then (match x with
        | some (.io d) => backA as xs (ρ.set i (some (s.to d)))
        | _ => none) else backA as xs ρ
    | _ => none)
  | .sh _ :: as, _ :: xs, ρ => backA as xs ρ
  | _ :: _, [], _ => none
def evCall (F : FnV) (os : List Opd) : Ev := fun ρ => match evOs os ρ with
  | .ok as ρ1 => (match argSls ρ1 as with
    | some ss => if apart ρ1 as = true then (match F ss with
      | .ret r ρ' => (match backA as ρ' ρ1 with
        | some ρ2 => .ok r ρ2
        | none => .stuck)
      | .next ρ' => (match backA as ρ' ρ1 with
        | some ρ2 => .ok (.sh .none) ρ2
        | none => .stuck)
      | .exc c ρ' => (match backA as ρ' ρ1 with
        | some ρ2 => .exc c ρ2
        | none => .stuck)
      | _ => .stuck) else .stuck
    | none => .stuck)
  | .exc c ρ1 => .exc c ρ1
  | .stuck => .stuck
section
variable {K : Kx} {W : WX} {al al' : Addr → Prop} {own own' own1 : Own} {ρ ρ' ρ1 ρ2 : Env} {σ σ1 σ' : St} {H H' H1 : Hp} {X : Cx} {pos : Pos} {D : Ends} {as : List Arg} {ss : List Sl} {vs : List V} {k : Nat}
theorem Sl.to_to (s : Sl) (d d' : PyData) : (s.to d).to d' = s.to d' := by cases s <;> rfl
theorem backA_slot : ∀ {as : List Arg} {ρ' ρ ρ2 : Env}, backA as ρ' ρ = some ρ2 → ρ2.length = ρ.length ∧ ∀ i : Nat, (∃ (j : Nat) (d' : PyData) (s0 : Sl), as[j]? = some (.pl i) ∧ ρ'[j]? = some (some (.io d')) ∧ ρ[i]? = some (some s0) ∧ s0.wr = true ∧ ρ2[i]? = some (some (s0.to d'))) ∨
    (ρ2[i]? = ρ[i]? ∧ ∀ j : Nat, as[j]? = some (.pl i) → ∀ s, ρ[i]? = some (some s) → s.wr = false)
  | [], ρ', ρ, ρ2, h => by simp only [backA, Option.some.injEq] at h; subst h; exact ⟨rfl, fun i => .inr ⟨rfl, fun j e => by simp at e⟩⟩
  | .sh _ :: as, [], ρ, ρ2, h => by simp [backA] at h
  | .pl _ :: as, [], ρ, ρ2, h => by simp [backA] at h
  | .sh d :: as, x :: xs, ρ, ρ2, h => by
    simp only [backA] at h
    obtain ⟨hl, h⟩ := backA_slot h
    refine ⟨hl, fun i => (h i).imp (fun ⟨j, d', s0, e1, e2, e3⟩ => ⟨j + 1, d', s0, by simpa using e1, by simpa using e2, e3⟩) fun ⟨e1, e2⟩ => ⟨e1, fun j ej => ?_⟩⟩
    cases j with
    | zero => simp at ej
    | succ j => exact e2 j (by simpa using ej)
  | .pl i0 :: as, x :: xs, ρ, ρ2, h => by
    simp only [backA] at h
    split at h
    · rename_i s e0
      split at h
      · rename_i hw
        split at h
        · rename_i d0
          have hlt : i0 < ρ.length := (List.getElem?_eq_some_iff.mp e0).1
          obtain ⟨hl, h⟩ := backA_slot h
          rw [List.length_set] at hl
          refine ⟨hl, fun i => ?_⟩
          by_cases hi : i = i0
          · subst hi
            have e1 : (ρ.set i (some (s.to d0)))[i]? = some (some (s.to d0)) := List.getElem?_set_self hlt
            rcases h i with ⟨j, d', s0, q1, q2, q3, q4, q5⟩ | ⟨q1, q2⟩
            · rw [e1] at q3
              cases q3
              exact .inl ⟨j + 1, d', s, by simpa using q1, by simpa using q2, e0, hw, by rw [q5, Sl.to_to]⟩
            · exact .inl ⟨0, d0, s, rfl, rfl, e0, hw, by rw [q1, e1]⟩
          · have e1 : (ρ.set i0 (some (s.to d0)))[i]? = ρ[i]? := List.getElem?_set_ne (Ne.symm hi)
            rcases h i with ⟨j, d', s0, q1, q2, q3, q4, q5⟩ | ⟨q1, q2⟩
            · rw [e1] at q3
              exact .inl ⟨j + 1, d', s0, by simpa using q1, by simpa using q2, q3, q4, q5⟩
            · rw [e1] at q1 q2
              refine .inr ⟨q1, fun j ej => ?_⟩
              cases j with
              | zero => simp at ej; exact (hi ej.symm).elim
              | succ j => exact q2 j (by simpa using ej)
        · cases h
      · rename_i hw
        obtain ⟨hl, h⟩ := backA_slot h
        refine ⟨hl, fun i => (h i).imp (fun ⟨j, d', s0, e1, e2, e3⟩ => ⟨j + 1, d', s0, by simpa using e1, by simpa using e2, e3⟩) fun ⟨e1, e2⟩ => ⟨e1, fun j ej => ?_⟩⟩
        cases j with
        | zero =>
          simp at ej
          subst ej
          intro s' es
          rw [e0] at es
          cases es
          simpa using hw
        | succ j => exact e2 j (by simpa using ej)
    · cases h
theorem argSls_get : ∀ {as : List Arg} {ss : List Sl}, argSls ρ as = some ss → ss.length = as.length ∧ ∀ (j : Nat) (a : Arg), as[j]? = some a → ∃ s, ss[j]? = some s ∧ argSl ρ a = some s
  | [], ss, h => by simp only [argSls, Option.some.injEq] at h; subst h; exact ⟨rfl, fun j a e => by simp at e⟩
  | a :: as, ss, h => by
    simp only [argSls] at h
    split at h
    · rename_i s ss' e1 e2
      simp only [Option.some.injEq] at h
      subst h
      obtain ⟨hl, h⟩ := argSls_get e2
      refine ⟨by simp [hl], fun j a' e => ?_⟩
      cases j with
      | zero => simp at e; subst e; exact ⟨s, rfl, e1⟩
      | succ j => simpa using h j a' (by simpa using e)
    · cases h
theorem apart_get : ∀ {as : List Arg}, apart ρ as = true → ∀ (j j' i : Nat), as[j]? = some (.pl i) → as[j']? = some (.pl i) → clash ρ (.pl i) (.pl i) = true → j = j'
  | [], _, j, j', i, e, _, _ => by simp at e
  | a :: as, h, j, j', i, e, e', c => by
    simp only [apart, Bool.and_eq_true, List.all_eq_true] at h
    obtain ⟨h1, h2⟩ := h
    cases j with
    | zero =>
      simp at e
      subst e
      cases j' with
      | zero => rfl
      | succ j' =>
        have z := h1 _ (List.mem_of_getElem? (by simpa using e'))
        rw [c] at z
        cases z
    | succ j =>
      cases j' with
      | zero =>
        simp at e'
        subst e'
        have z := h1 _ (List.mem_of_getElem? (by simpa using e))
        rw [c] at z
        cases z
      | succ j' => rw [apart_get h2 j j' i (by simpa using e) (by simpa using e') c]
theorem ArgsOk.get : ∀ {as : List Arg} {vs : List V}, ArgsOk K H al own σ as vs → vs.length = as.length ∧ ∀ (j : Nat) (a : Arg), as[j]? = some a → ∃ v, vs[j]? = some v ∧ ArgOk K H al own σ a v
  | [], [], _ => ⟨rfl, fun j a e => by simp at e⟩
  | [], _ :: _, h => h.elim
  | _ :: _, [], h => h.elim
  | a :: as, v :: vs, ⟨h1, h2⟩ => by
    obtain ⟨hl, h⟩ := ArgsOk.get h2
    refine ⟨by simp [hl], fun j a' e => ?_⟩
    cases j with
    | zero => simp at e; subst e; exact ⟨v, rfl, h1⟩
    | succ j => simpa using h j a' (by simpa using e)
/-- who owns what at the callee's entry -/
def ownA (ρ : Env) (own : Own) (as : List Arg) : Own := fun j => match as[j]? with
  | some (.pl i) => (match ρ[i]? with
    | some (some (.sh _)) => none
    | some (some _) => own i
    | _ => none)
  | _ => none
theorem ownA_some {j : Nat} {a : Addr} (h : ownA ρ own as j = some a) : ∃ (i : Nat) (s : Sl), as[j]? = some (.pl i) ∧ ρ[i]? = some (some s) ∧ own i = some a ∧ clash ρ (.pl i) (.pl i) = true := by
  unfold ownA at h
  split at h
  · rename_i i e
    split at h
    · cases h
    · rename_i s hn e2
      refine ⟨i, s, e, e2, h, ?_⟩
      cases s with
      | sh d => exact (hn d rfl).elim
      | ow d => simp [clash, e2]
      | io d => simp [clash, e2]
      | lk d => simp [clash, e2]
      | ex a c => simp [clash, e2]
    · cases h
  · cases h
theorem entry_get {ss : List Sl} {k j : Nat} {s : Sl} (h : (entry ss k)[j]? = some (some s)) : ss[j]? = some s := by
  unfold entry at h
  by_cases hj : j < ss.length
  · rw [List.getElem?_append_left (by simpa using hj)] at h
    simpa using h
  · rw [List.getElem?_append_right (by simpa using Nat.le_of_not_lt hj)] at h
    simp only [List.getElem?_replicate] at h
    split at h
    · cases h
    · cases h
theorem entry_of {ss : List Sl} {k j : Nat} {s : Sl} (h : ss[j]? = some s) : (entry ss k)[j]? = some (some s) := by
  unfold entry
  have hj := (List.getElem?_eq_some_iff.mp h).1
  rw [List.getElem?_append_left (by simpa using hj)]
  simp [h]
theorem start_of {vs : List V} {k j : Nat} {v : V} (h : vs[j]? = some v) : (vs.map some ++ List.replicate k none)[j]? = some (some v) := by
  have hj := (List.getElem?_eq_some_iff.mp h).1
  rw [List.getElem?_append_left (by simpa using hj)]
  simp [h]
theorem Zf.inA {b : Addr} (h : Zf al own b) : Zf (Zf al own) (ownA ρ own as) b := ⟨h, fun j e => by
  obtain ⟨i, s, _, _, q, _⟩ := ownA_some e
  exact h.2 i q⟩
theorem call_pre (p : Pre K al own ρ σ H) (e1 : argSls ρ as = some ss) (e2 : apart ρ as = true) (ao : ArgsOk K H al own σ as vs) : Pre K (Zf al own) (ownA ρ own as) (entry ss k) (vs.map some ++ List.replicate k none) H := by
  obtain ⟨l1, g1⟩ := argSls_get e1
  obtain ⟨l2, g2⟩ := ao.get
  refine ⟨p.tb, fun b h => p.freeN h, fun j j' a h h' => ?_, fun j a h => ?_, by simp [entry, l1, l2], fun j s h => ?_⟩
  · obtain ⟨i, s, q1, q2, q3, q4⟩ := ownA_some h
    obtain ⟨i', s', r1, r2, r3, r4⟩ := ownA_some h'
    have ii := p.inj _ _ _ q3 r3
    subst ii
    exact apart_get e2 j j' i q1 r1 q4
  · obtain ⟨i, s, q1, q2, q3, q4⟩ := ownA_some h
    exact p.mu i a q3
  · have h := entry_get h
    have hj : j < as.length := by rw [← l1]; exact (List.getElem?_eq_some_iff.mp h).1
    obtain ⟨s', q1, q2⟩ := g1 j as[j] (List.getElem?_eq_getElem hj)
    rw [h] at q1
    cases q1
    obtain ⟨v, q3, q4⟩ := g2 j as[j] (List.getElem?_eq_getElem hj)
    refine ⟨v, start_of q3, ?_⟩
    have ej : as[j]? = some as[j] := List.getElem?_eq_getElem hj
    cases ea : as[j] with
    | sh d =>
      rw [ea] at q2 q4
      simp only [argSl, Option.some.injEq] at q2
      subst q2
      obtain ⟨bs, r, z⟩ := q4
      exact ⟨bs, r, fun b hb => (z b hb).inA⟩
    | pl i =>
      rw [ea] at q2 q4 ej
      simp only [argSl] at q2
      cases ei : ρ[i]? with
      | none => simp [ei] at q2
      | some t =>
        cases t with
        | none => simp [ei] at q2
        | some t =>
          obtain ⟨v', w1, w2⟩ := p.sl i t ei
          rw [show σ[i]? = some (some v) from q4] at w1
          cases w1
          cases t with
          | sh d =>
            simp only [ei, Option.some.injEq] at q2
            subst q2
            obtain ⟨bs, r, z⟩ := w2
            exact ⟨bs, r, fun b hb => (z b hb).inA⟩
          | ow d =>
            simp only [ei, Option.some.injEq] at q2
            subst q2
            obtain ⟨a, o1, o2, _⟩ := w2
            exact ⟨a, by simp only [ownA, ej, ei]; exact o1, o2.mono fun b hb => hb.inA⟩
          | io d =>
            simp only [ei, Option.some.injEq] at q2
            subst q2
            obtain ⟨a, o1, o2⟩ := w2
            exact ⟨a, by simp only [ownA, ej, ei]; exact o1, o2.mono fun b hb => hb.inA⟩
          | lk d =>
            simp only [ei, Option.some.injEq] at q2
            subst q2
            obtain ⟨a, o1, o2⟩ := w2
            exact ⟨a, by simp only [ownA, ej, ei]; exact o1, o2.mono fun b hb => hb.inA⟩
          | ex a c =>
            simp only [ei, Option.some.injEq] at q2
            subst q2
            exact w2
/-- who may be changed by the callee -/
theorem wr_entry {b : Addr} (e1 : argSls ρ as = some ss) (h : Wr (ownA ρ own as) (entry ss k) b) : ∃ (i j : Nat) (s : Sl), as[j]? = some (.pl i) ∧ ρ[i]? = some (some s) ∧ s.wr = true ∧ own i = some b := by
  obtain ⟨j, s, q1, q2, q3⟩ := h
  obtain ⟨i, t, r1, r2, r3, r4⟩ := ownA_some q1
  obtain ⟨l1, g1⟩ := argSls_get e1
  obtain ⟨s', w1, w2⟩ := g1 j _ r1
  rw [entry_get q2] at w1
  cases w1
  refine ⟨i, j, t, r1, r2, ?_, r3⟩
  simp only [argSl, r2] at w2
  cases t with
  | ow d => rfl
  | io d => rfl
  | sh d => simp only [Option.some.injEq] at w2; subst w2; exact q3
  | lk d => simp only [Option.some.injEq] at w2; subst w2; exact q3
  | ex a c => simp only [Option.some.injEq] at w2; subst w2; exact q3
theorem call_back {P : Addr → Prop} (hP : ∀ b, H b ≠ none → P b) (p : Pre K al own ρ σ H) (e1 : argSls ρ as = some ss) (ao : ArgsOk K H al own σ as vs) (q : Pre K (fun b => Zf al own b ∧ P b) own' ρ' σ' H') (s : Stp (ownA ρ own as) (entry ss k) H own' ρ' H') (hPf : ∀ b, H' b = none → P b) (eb : backA as ρ' ρ = some ρ2) :
    Pre K (fun b => al b ∧ P b) own ρ2 σ H' ∧ Stp own ρ H own ρ2 H' := by
  obtain ⟨l1, g1⟩ := argSls_get e1
  obtain ⟨l2, g2⟩ := ao.get
  obtain ⟨lb, gb⟩ := backA_slot eb
  -- an updated slot
  have up : ∀ (i j : Nat) (d' : PyData) (s0 : Sl), as[j]? = some (.pl i) → ρ'[j]? = some (some (.io d')) → ρ[i]? = some (some s0) → s0.wr = true → ∃ v a, σ[i]? = some (some v) ∧ own i = some a ∧ OwV K H' (Zf (fun b => al b ∧ P b) own) v d' a ∧ ((∃ d, s0 = .ow d) → al a ∧ P a) := by
    intro i j d' s0 h1 h2 h3 h4
    obtain ⟨v, w1, w2⟩ := p.sl i s0 h3
    obtain ⟨v', u1, a', u2, u3⟩ := q.sl j _ h2
    obtain ⟨t, g3, g4⟩ := g1 j _ h1
    have et : ∃ d, t = .io d := by
      simp only [argSl, h3] at g4
      cases s0 with
      | sh d => cases h4
      | lk d => cases h4
      | ex a c => cases h4
      | ow d => exact ⟨d, by simpa using g4.symm⟩
      | io d => exact ⟨d, by simpa using g4.symm⟩
    obtain ⟨d, rfl⟩ := et
    have oo := (s.io j d (entry_of g3)).2
    have ow' : ownA ρ own as j = own i := by
      simp only [ownA, h1, h3]
      cases s0 with
      | sh d => cases h4
      | lk d => rfl
      | ex a c => cases h4
      | ow d => rfl
      | io d => rfl
    rw [u2, ow'] at oo
    have Zm : ∀ b, Zf (fun b => Zf al own b ∧ P b) own' b → Zf (fun b => al b ∧ P b) own b := fun b hb => ⟨⟨hb.1.1.1, hb.1.2⟩, hb.1.1.2⟩
    have fin : ∀ a, own i = some a → v = .ref a → ∃ a, σ[i]? = some (some v) ∧ own i = some a ∧ OwV K H' (Zf (fun b => al b ∧ P b) own) v d' a := fun a ea ev => by
      rw [ea] at oo
      have oo : a' = a := Option.some.inj oo
      subst oo
      refine ⟨a', w1, ea, ?_⟩
      obtain ⟨z1, z2⟩ := u3
      subst z1
      subst ev
      exact OwV.mono ⟨rfl, z2⟩ Zm
    cases s0 with
    | sh d => cases h4
    | lk d => cases h4
    | ex a c => cases h4
    | ow d =>
      obtain ⟨a, x1, x2, x3⟩ := w2
      obtain ⟨a2, y1, y2, y3⟩ := fin a x1 x2.1
      rw [x1] at y2
      cases y2
      obtain ⟨o, yo, _⟩ := p.mu i a x1
      exact ⟨v, a, y1, x1, y3, fun _ => ⟨x3, hP a (by rw [yo]; exact fun z => nomatch z)⟩⟩
    | io d =>
      obtain ⟨a, x1, x2⟩ := w2
      obtain ⟨a2, y1, y2, y3⟩ := fin a x1 x2.1
      exact ⟨v, a2, y1, y2, y3, fun ⟨_, z⟩ => nomatch z⟩
  have nofree : ∀ b, Zf al own b → ¬ Wr (ownA ρ own as) (entry ss k) b := fun b z w => by
    obtain ⟨i, _, _, _, _, _, e⟩ := wr_entry e1 w
    exact z.2 i e
  have mtt : ∀ b, Wr (ownA ρ own as) (entry ss k) b → ∃ o, H b = some o ∧ Mut (some o) := fun b w => by
    obtain ⟨i, _, _, _, _, _, e⟩ := wr_entry e1 w
    exact p.mu i b e
  have zz : ∀ b, Zf al own b → H b ≠ none → Zf (fun b => al b ∧ P b) own b := fun b z n => ⟨⟨z.1, hP b n⟩, z.2⟩
  -- an owned list that the callee may not change
  have keepO : ∀ {v : V} {d : PyData} {a : Addr}, OwV K H (Zf al own) v d a → ¬ Wr (ownA ρ own as) (entry ss k) a → OwV K H' (Zf (fun b => al b ∧ P b) own) v d a := by
    rintro v d a ⟨e, ⟨xs, ds, bs, h1, h2, h3, h4⟩ | ⟨o, xs, ds, bs, h1, h2, h0, h3, h4⟩⟩ nw
    · exact ⟨e, .inl ⟨xs, ds, bs, h1, s.keep a _ h2 nw (trivial), RpA.keep s.keep mtt _ _ _ h3 fun b hb => nofree b (h4 b hb), fun b hb => zz b (h4 b hb) (RpA.there _ _ _ h3 b hb)⟩⟩
    · exact ⟨e, .inr ⟨o, xs, ds, bs, h1, s.keep a _ h2 nw h0.nt, h0, RpK.keep s.keep mtt _ _ _ h3 fun b hb => nofree b (h4 b hb), fun b hb => zz b (h4 b hb) (RpK.there _ _ _ h3 b hb)⟩⟩
  have noWr : ∀ i a t, own i = some a → ρ[i]? = some (some t) → (∀ j : Nat, as[j]? = some (.pl i) → ∀ s, ρ[i]? = some (some s) → s.wr = false) → ¬ Wr (ownA ρ own as) (entry ss k) a := fun i a t ea et hn w => by
    obtain ⟨i', j, t', r1, r2, r3, r4⟩ := wr_entry e1 w
    have := p.inj _ _ _ r4 ea
    subst this
    rw [hn j r1 _ r2] at r3
    cases r3
  have up_of : ∀ i a, own i = some a → ∃ o, H' a = some o ∧ Mut (some o) := fun i a ea => by
    obtain ⟨o, x1, x2⟩ := p.mu i a ea
    by_cases hw : Wr (ownA ρ own as) (entry ss k) a
    · obtain ⟨i', j, t', r1, r2, r3, r4⟩ := wr_entry e1 hw
      rcases gb i' with ⟨j', d', s0, q1, q2, q3, q4, q5⟩ | ⟨_, q2⟩
      · obtain ⟨v, a', _, y2, y3, _⟩ := up i' j' d' s0 q1 q2 q3 q4
        rw [r4] at y2
        cases y2
        exact y3.at
      · rw [q2 j r1 _ r2] at r3
        cases r3
    · exact ⟨o, s.keep a o x1 hw (Mut.nt x2), x2⟩
  refine ⟨⟨q.tb, fun b h => ⟨p.fr b (s.dom b h), hPf b h⟩, p.inj, up_of, by rw [lb]; exact p.len, fun i t ht => ?_⟩, ⟨fun b o h hw nt => s.keep b o h (fun w => ?_) nt, s.dom, fun i a e => .inl ⟨i, e⟩, fun b ⟨i, t, x1, x2, x3⟩ => .inl ?_, fun i d e => ⟨?_, rfl⟩, fun i d e => ⟨?_, rfl⟩, lb⟩⟩
  · rcases gb i with ⟨j, d', s0, q1, q2, q3, q4, q5⟩ | ⟨q1, q2⟩
    · obtain ⟨v, a, y1, y2, y3, y4⟩ := up i j d' s0 q1 q2 q3 q4
      rw [q5] at ht
      cases ht
      refine ⟨v, y1, ?_⟩
      cases s0 with
      | sh d => cases q4
      | lk d => cases q4
      | ex a c => cases q4
      | ow d => exact ⟨a, y2, y3, y4 ⟨d, rfl⟩⟩
      | io d => exact ⟨a, y2, y3⟩
    · rw [q1] at ht
      obtain ⟨v, w1, w2⟩ := p.sl i t ht
      refine ⟨v, w1, ?_⟩
      cases t with
      | sh d =>
        obtain ⟨bs, r, z⟩ := w2
        exact ⟨bs, Rp.keep s.keep mtt _ _ _ r fun b hb => nofree b (z b hb), fun b hb => zz b (z b hb) (Rp.there _ _ _ r b hb)⟩
      | ow d =>
        obtain ⟨a, x1, x2, x3⟩ := w2
        obtain ⟨o, yo, _⟩ := p.mu i a x1
        exact ⟨a, x1, keepO x2 (noWr i a _ x1 ht q2), x3, hP a (by rw [yo]; exact fun z => nomatch z)⟩
      | io d =>
        obtain ⟨a, x1, x2⟩ := w2
        exact ⟨a, x1, keepO x2 (noWr i a _ x1 ht q2)⟩
      | lk d =>
        obtain ⟨a, x1, x2⟩ := w2
        exact ⟨a, x1, keepO x2 (noWr i a _ x1 ht q2)⟩
      | ex a c => exact w2
  · obtain ⟨i, j, t, r1, r2, r3, r4⟩ := wr_entry e1 w
    exact hw ⟨i, t, r4, r2, r3⟩
  · rcases gb i with ⟨j, d', s0, q1, q2, q3, q4, q5⟩ | ⟨q1, q2⟩
    · exact ⟨i, s0, x1, q3, q4⟩
    · exact ⟨i, t, x1, by rw [← q1]; exact x2, x3⟩
  · rcases gb i with ⟨j, d', s0, q1, q2, q3, q4, q5⟩ | ⟨q1, q2⟩
    · rw [e] at q3; cases q3; cases q4
    · rw [q1]; exact e
  · rcases gb i with ⟨j, d', s0, q1, q2, q3, q4, q5⟩ | ⟨q1, q2⟩
    · rw [e] at q3; cases q3; exact ⟨d', q5⟩
    · exact ⟨d, by rw [q1]; exact e⟩
theorem semCallM {F : FnV} {n : Nat} {os : List Opd} {Q : VK} (hn : ∀ as ρ1, evOs os ρ = .ok as ρ1 → as.length = n) (p : Pre K al own ρ σ H) (h : match evCall F os ρ with
    | .ok r ρ' => OkE K al own ρ σ H Q r ρ'
    | .exc c ρ' => ExE K W al own ρ σ H c ρ'
    | .stuck => False) : match evOs os ρ with
    | .ok as ρ' => ∀ vs H' own', Pre K al own' ρ' σ H' → Stp own ρ H own' ρ' H' → ArgsOk K H' al own' σ as vs → spV K n k F vs H' Q (fun cls d H' => W cls d σ H')
    | .exc c ρ' => ExE K W al own ρ σ H c ρ'
    | .stuck => False := by
  simp only [evCall] at h
  cases e : evOs os ρ with
  | stuck => simp only [e] at h
  | exc c ρ1 => simp only [e] at h ⊢; exact h
  | ok as ρ1 =>
    simp only [e] at h ⊢
    intro vs H1 own1 p1 s1 ao
    cases e2 : argSls ρ1 as with
    | none => simp only [e2] at h
    | some ss =>
      simp only [e2] at h
      by_cases e3 : apart ρ1 as = true
      · rw [if_pos e3] at h
        refine ⟨by rw [ao.get.1]; exact hn as ρ1 e, _, _, ss, call_pre p1 e2 e3 ao, ?_⟩
        cases e4 : F ss with
        | stuck => simp only [e4] at h
        | brk ρ' => simp only [e4] at h
        | cont ρ' => simp only [e4] at h
        | exc c ρ' =>
          simp only [e4] at h
          cases e5 : backA as ρ' ρ1 with
          | none => simp only [e5] at h
          | some ρ2 =>
            simp only [e5] at h
            intro σ' H' own' q s
            obtain ⟨p2, s2⟩ := call_back (P := fun _ => True) (fun _ _ => trivial) p1 e2 ao (q.mono fun b hb => ⟨hb, trivial⟩) s (fun _ _ => trivial) e5
            exact h H' own1 (p2.mono fun b hb => hb.1) (s1.trans s2)
        | next ρ' =>
          simp only [e4] at h
          cases e5 : backA as ρ' ρ1 with
          | none => simp only [e5] at h
          | some ρ2 =>
            simp only [e5] at h
            intro σ' H' own' q s
            obtain ⟨p2, s2⟩ := call_back (P := fun _ => True) (fun _ _ => trivial) p1 e2 ao (q.mono fun b hb => ⟨hb, trivial⟩) s (fun _ _ => trivial) e5
            exact h .non H' own1 [] (p2.mono fun b hb => hb.1) (s1.trans s2) .non (fun _ z => nomatch z)
        | ret r ρ' =>
          simp only [e4] at h
          cases e5 : backA as ρ' ρ1 with
          | none => simp only [e5] at h
          | some ρ2 =>
            simp only [e5] at h
            cases r with
            | sh d =>
              intro v σ' H' own' bs q s r z
              obtain ⟨p2, s2⟩ := call_back (P := fun _ => True) (fun _ _ => trivial) p1 e2 ao (q.mono fun b hb => ⟨hb, trivial⟩) s (fun _ _ => trivial) e5
              exact h v H' own1 bs (p2.mono fun b hb => hb.1) (s1.trans s2) r fun b hb => (z b hb).1
            | ow d =>
              intro v σ' H' own' a q s o ha hf hw
              have hna : H1 a = none := hw.elim id fun w => by
                obtain ⟨i, _, _, _, _, _, e⟩ := wr_entry e2 w
                exact (ha.2 i e).elim
              obtain ⟨p2, s2⟩ := call_back (P := fun b => b ≠ a) (fun b hb q => hb (q ▸ hna)) p1 e2 ao q s (fun b hb => (q.fr b hb).2) e5
              exact h v H' own1 a p2 (s1.trans s2) (o.mono fun b hb => ⟨⟨hb.1.1.1, hb.1.2⟩, hb.1.1.2⟩) ha.1 ha.2 (.inl (s1.dom _ hna))
      · rw [if_neg e3] at h; exact h.elim
theorem semCall {F : FnV} {n : Nat} {os : List Opd} {Q : VK} (hn : ∀ as ρ1, evOs os ρ = .ok as ρ1 → as.length = n) (p : Pre K al own ρ σ H) (h : match evCall F os ρ with
    | .ok r ρ' => OkE K al own ρ σ H Q r ρ'
    | .exc c ρ' => ExE K W al own ρ σ H c ρ'
    | .stuck => False) : SemOs K W os σ H fun vs H' => spV K n k F vs H' Q (fun cls d H' => W cls d σ H') := ⟨al, own, ρ, p, semCallM hn p h⟩
theorem evOs_length : ∀ {os : List Opd} {ρ ρ1 : Env} {as : List Arg}, evOs os ρ = .ok as ρ1 → as.length = os.length
  | [], ρ, ρ1, as, h => by simp only [evOs, Out.ok.injEq] at h; rw [← h.1]; rfl
  | o :: os, ρ, ρ1, as, h => by
    simp only [evOs] at h
    split at h
    · split at h
      · rename_i h2
        simp only [Out.ok.injEq] at h
        rw [← h.1]
        simp [evOs_length h2]
      · cases h
      · cases h
    · cases h
    · cases h
theorem semCall' {F : FnV} {n : Nat} {os : List Opd} {Q : VK} (hn : os.length = n) (h : SemE K W (evCall F os) σ H Q) : SemOs K W os σ H fun vs H' => spV K n k F vs H' Q (WE W σ) := by
  obtain ⟨al, own, ρ, p, h⟩ := h
  exact semCall (fun as ρ1 e => by rw [evOs_length e, hn]) p h
end
end
end Ev
set_option Elab.async false
set_option linter.all false
set_option autoImplicit false
set_option maxRecDepth 100000
namespace Ev
open PySem PySem.Spec L2
open PyProof.Rows hiding St
noncomputable section
/-- the global x is a def of the text with n parameters and k further names, doing F at call depth lv -/
def Kn (P : Program) (w : World) (K : PySem.W.Frag) (mg : Str → Option Value) (base : Heap) (lv : Nat) (x : Str) (ps : List Str) (k : Nat) (F : FnV) : Prop :=
  ∃ (f : Addr) (fd : FuncData), FnG P w K mg base (L2.CX P w) lv f fd ps (spV ⟨K, P, w⟩ ps.length k F) ∧ mg x = some (.ref f) ∧ PySem.W.keepIn K (.ref f) = true ∧
    (∀ us : List Value, us.length = ps.length → bindArgs fd ⟨us, []⟩ = pure (ps.zip us)) ∧ ∀ us ws : List Value, (us ++ ws).length = ps.length → bindArgs fd ⟨us, (ps.drop us.length).zip ws⟩ = pure (ps.zip (us ++ ws))
theorem Kn.mono {P : Program} {w : World} {K : PySem.W.Frag} {mg : Str → Option Value} {base : Heap} {lv lv' : Nat} {x : Str} {ps : List Str} {k : Nat} {F : FnV} (h : Kn P w K mg base lv x ps k F) (l : lv ≤ lv') : Kn P w K mg base lv' x ps k F := by
  obtain ⟨f, fd, h1, h2⟩ := h
  exact ⟨f, fd, h1.mono l, h2⟩
section
variable {K : Kx} {W : WX} {al al' : Addr → Prop} {own own' own1 : Own} {ρ ρ' ρ1 ρ2 : Env} {σ σ1 σ' : St} {H H' H1 : Hp} {X : Cx} {pos p : Pos} {D : Ends} {x : Str} {e : Expr} {es : List Expr} {os os2 : List Opd} {lv k : Nat} {ps : List Str} {F : FnV}
theorem pe_fn (kn : Kn X.prog X.w X.K X.mg X.base lv x ps k F) (hr : RoomG lv X.A) (hg : Gl X x) (tk : Takes X W) (ha : PA X (e :: es) (SemOs X.kx W os)) (hn : os.length = ps.length := by rfl)
    (hdb : (x == ("__debug__" : Str)) = false := by decide) (he : starEach (e :: es) X.env = (false, eval e X.env) :: starEach es X.env := by rfl) (hpl : (backTo pos (starEach es X.env)).any (·.1) = false := by rfl) :
    PE X (.Call (.Name x p) (e :: es) [] pos) (SemE X.kx W (evCall F os)) := by
  obtain ⟨f, fd, h1, h2, h3, h4, h5⟩ := kn
  exact PE.imp (pe_callG h1 hr hg h2 h3 (.all h4) (passAt tk) ha hdb he hpl) fun σ H Q h => semCall' hn h
def tMany (K : Kx) (W : WX) : List Opd → TA
  | [] => tNil
  | o :: os => tCons (SemO K W o) (tMany K W os)
theorem tMany_of : ∀ {os : List Opd} {H : Hp} {R : List V → Hp → Prop}, SemOs K W os σ H R → tMany K W os σ H R
  | [], H, R, h => semOs_nil h
  | o :: os, H, R, h => SemO.mono (semOs_cons h) fun v H1 q => tMany_of q
theorem pk_0 : PK X [] (tMany X.kx W []) := pk_nil
theorem pk_1 {o : Opd} {nm : Option Str} {kpos : Pos} {kws : List Keyword} (ha : PE X e (SemO X.kx W o)) (hr : PK X kws (tMany X.kx W os)) : PK X (⟨nm, e, kpos⟩ :: kws) (tMany X.kx W (o :: os)) := pk_cons ha hr
variable {kws : List Keyword}
theorem fnok_of {P : Program} {w : World} {K : PySem.W.Frag} {mg : Str → Option Value} {base : Heap} {f : Addr} {fd : FuncData} {qual : Str} {params : Arguments} {body : List Stmt} {scope : Scope} {N : List Str} {fb : EvS} (Fd : FunD K x qual params body scope [] [] f fd) (S : FnScope N ps scope)
    (hb : ∀ (cdv : Value) (A : Around) (outer : List PySem.Env) (s : Shared) (H : Hp) (E : XK), RoomG lv (A.deeper (envOfC qual scope s.heap.objs.size f cdv)) →
      PSs (cxOf (L2.CX P w) P w K mg base N qual scope f cdv A outer s H E) body (SemS ⟨K, P, w⟩ (fun cls d _ H' => E cls d H') fb)) :
    FnG P w K mg base (L2.CX P w) (lv + 1) f fd ps (spV ⟨K, P, w⟩ ps.length (N.length - ps.length) (mkF (N.length - ps.length) fb)) := by
  refine fng_of Fd S (fun vs H Q E h => h.1) fun cdv A outer s H vs Q E hr h => ⟨_, hb cdv A outer s H E hr, ?_⟩
  obtain ⟨hl, Z, own, ss, p, h⟩ := h
  unfold L2.start
  rw [hl]
  refine ⟨Z, own, _, p, ?_⟩
  have h := FnQ.untrim h
  cases e : fb (entry ss (N.length - ps.length)) with
  | next ρ' => rw [e] at h; exact h
  | ret r ρ' => rw [e] at h; exact h
  | exc c ρ' => rw [e] at h; exact h
  | brk ρ' => rw [e] at h; exact h.elim
  | cont ρ' => rw [e] at h; exact h.elim
  | stuck => rw [e] at h; exact h.elim
theorem kn_of {P : Program} {w : World} {K : PySem.W.Frag} {mg : Str → Option Value} {base : Heap} {f : Addr} {fd : FuncData} {qual : Str} {params : Arguments} {body : List Stmt} {scope : Scope} {N : List Str} {fb : EvS} (Fd : FunD K x qual params body scope [] [] f fd) (gx : mg x = some (.ref f)) (S : FnScope N ps scope)
    (h4 : ∀ (kV doc pm : Value) (an : Option Addr) (cdv ct : Value) (us : List Value), us.length = ps.length → bindArgs (PySem.W.fnOf x qual params body scope .none kV doc pm an cdv ct) ⟨us, []⟩ = pure (ps.zip us))
    (h5 : ∀ (kV doc pm : Value) (an : Option Addr) (cdv ct : Value) (us ws : List Value), (us ++ ws).length = ps.length → bindArgs (PySem.W.fnOf x qual params body scope .none kV doc pm an cdv ct) ⟨us, (ps.drop us.length).zip ws⟩ = pure (ps.zip (us ++ ws)))
    (hb : ∀ (cdv : Value) (A : Around) (outer : List PySem.Env) (s : Shared) (H : Hp) (E : XK), RoomG lv (A.deeper (envOfC qual scope s.heap.objs.size f cdv)) →
      PSs (cxOf (L2.CX P w) P w K mg base N qual scope f cdv A outer s H E) body (SemS ⟨K, P, w⟩ (fun cls d _ H' => E cls d H') fb)) :
    Kn P w K mg base (lv + 1) x ps (N.length - ps.length) (mkF (N.length - ps.length) fb) := by
  refine ⟨f, fd, fnok_of Fd S hb, gx, Fd.kp, ?_, ?_⟩
  · obtain ⟨oc, od, dV, kV, doc, pm, an, cdv, ct, osl, rfl, lk, hcd, hD, hK⟩ := Fd.ex
    rcases hD with ⟨_, rfl⟩ | ⟨e, _⟩
    · exact h4 kV doc pm an cdv ct
    · exact absurd rfl e
  · obtain ⟨oc, od, dV, kV, doc, pm, an, cdv, ct, osl, rfl, lk, hcd, hD, hK⟩ := Fd.ex
    rcases hD with ⟨_, rfl⟩ | ⟨e, _⟩
    · exact h5 kV doc pm an cdv ct
    · exact absurd rfl e
/-- what a def may raise is taken -/
theorem takes_fn {P : Program} {w : World} {K : PySem.W.Frag} {mg : Str → Option Value} {base : Heap} {N : List Str} {qual : Str} {scope : Scope} {f : Addr} {cdv : Value} {A : Around} {outer : List PySem.Env} {s : Shared} {E : XK} (hf : (envOfC qual scope s.heap.objs.size f cdv).frame = some (envOfC qual scope s.heap.objs.size f cdv).locals := by rfl) :
    Takes (cxOf (L2.CX P w) P w K mg base N qual scope f cdv A outer s H E) (fun cls d _ H' => E cls d H') := takes_of rfl hf rfl rfl
theorem passes_fn {P : Program} {w : World} {K : PySem.W.Frag} {mg : Str → Option Value} {base : Heap} {N : List Str} {qual : Str} {scope : Scope} {f : Addr} {cdv : Value} {A : Around} {outer : List PySem.Env} {s : Shared} {E : XK} :
    PassesOwn (model P w) (cxOf (L2.CX P w) P w K mg base N qual scope f cdv A outer s H E).A (cxOf (L2.CX P w) P w K mg base N qual scope f cdv A outer s H E).env (cxOf (L2.CX P w) P w K mg base N qual scope f cdv A outer s H E).xe := PassesOwn.leaving
end
end
end Ev
set_option Elab.async false
set_option linter.all false
set_option autoImplicit false
set_option maxRecDepth 100000
namespace Ev
open PySem PySem.Spec L2
open PyProof.Rows hiding St
noncomputable section
def tyD : PyData → String
  | .none => "NoneType"
  | .bool _ => "bool"
  | .int _ => "int"
  | .str _ => "str"
  | .list _ => "list"
  | .tuple _ => "tuple"
  | .dict _ => "dict"
def isTy (t T : String) : Bool := t == T || (t == "bool" && T == "int")
def pIsi (T : String) : List PyData → Option Res
  | [d] => if plainK d = true then some (.sh (.bool (isTy (tyD d) T))) else none
  | _ => none
def pIsiT (Ts : List String) : List PyData → Option Res
  | [d] => if plainK d = true then some (.sh (.bool (Ts.any (isTy (tyD d))))) else none
  | _ => none
section
variable {K : Kx} {W : WX} {al al' : Addr → Prop} {own own' own1 : Own} {ρ ρ' ρ1 ρ2 : Env} {σ σ1 σ' : St} {H H' H1 : Hp} {X : Cx} {pos p : Pos} {D : Ends}
theorem DK.ty {a : Addr} {o : HO} {kvs : List (PyData × V × V)} {ds : List (PyData × PyData)} {as : List Addr} (h0 : DK K a o kvs) (h1 : Rd H a o) (h2 : RpK K H kvs ds as) (pl : plainK (.dict ds) = true) : TyX K H (.ref a) (.type "dict") := by
  cases h0 with
  | k kvs =>
    rcases h1 with h1 | ⟨o, h1⟩
    · exact .base (.dK h1)
    · exact .fDict h1
  | i c dx fs => cases h2 with | cons g0 g1 g2 => cases pl
  | e c => cases h2 with | cons g0 g1 g2 => cases pl
  | ef c dx => cases h2 with | cons g0 g1 g2 => cases pl
  | x fs => cases h2 with | cons g0 g1 g2 => cases pl
  | n kvs ne tks =>
    cases kvs with
    | nil => exact (ne rfl).elim
    | cons p kvs =>
      cases h2 with
      | cons g0 g1 g2 =>
        have := tks p (by simp)
        unfold plainK at pl
        revert this pl
        cases p.1 <;> simp [tk]
theorem Rp.ty {v : V} {d : PyData} {as : List Addr} (r : Rp K H v d as) (pl : plainK d = true) : TyX K H v (.type (tyD d)) := by
  cases r with
  | non => exact .base .non
  | bl b => exact .base (.bl b)
  | int i => exact .base (.int i)
  | str x => exact .base (.str x)
  | lst h1 h2 =>
    rcases h1 with h1 | ⟨o, h1⟩
    · exact .base (.lst h1)
    · exact .base (.frz h1)
  | lsk h1 h2 => obtain ⟨o, its, n, e, c, _⟩ := h1; exact .kList e c
  | tup h1 h2 =>
    rcases h1 with (h1 | ⟨o, h1⟩) | ⟨o, its, n, e, c, _⟩
    · exact .base (.tup h1)
    · exact .fTuple h1
    · exact .kTuple e c
  | dic h1 h0 h2 _ => exact h0.ty h1 h2 pl
variable {e : Expr} {o : Opd} {x : Str}
/-- a class by its name: the text's own, or a built-in error's -/
def clsV (K : PySem.W.Frag) (T : Str) : Value := if T = "ValueError" then .type "ValueError" else .ref (He.ga K T)
/-- tbl c T: is an error of class c one of class T -/
structure XF (K : PySem.W.Frag) (tbl : Str → Str → Option Bool) : Prop where
  exm : ∀ c T b, tbl c T = some b → PySem.W.exmOne K (.ref (He.ga K c)) (clsV K T) = some b
  kit : ∀ c T b, tbl c T = some b → PySem.W.kitOne K (.ref (He.ga K c)) (clsV K T) = some b
  cls : ∀ c T b, tbl c T = some b → ExcC K (He.ga K c)
  non : ∀ c T b, tbl c T = some b → PySem.W.kitOne K (.type "NoneType") (clsV K T) = some false
def sRaise (c : Str) : EvS := fun ρ => .exc c ρ
def wE (P : St → Prop) (t : TE) : TE := fun σ H Q => P σ ∧ t σ H Q
def wT (P : St → Prop) (t : TT) : TT := fun σ H Q => P σ ∧ t σ H Q
def wS (P : St → Prop) (t : TS) : TS := fun D σ H => P σ ∧ t D σ H
theorem PSs.w {P : St → Prop} {b : List Stmt} {t : TS} (h : PSs X b t) : PSs X b (wS P t) := PSs.imp h fun _ _ _ h => h.2
theorem PE.w {P : St → Prop} {t : TE} (h : PE X e t) : PE X e (wE P t) := PE.imp h fun _ _ _ h => h.2
theorem PT.w {P : St → Prop} {t : TT} (h : PT X e t) : PT X e (wT P t) := PT.imp h fun _ _ _ h => h.2
theorem Pre.blank (p : Pre K al own ρ σ H) (i : Nat) (v : Option V) : Pre K al own (ρ.set i none) (σ.set i v) H := ⟨p.tb, p.fr, p.inj, p.mu, by rw [List.length_set, List.length_set]; exact p.len, fun j s e => by
  rcases getElem?_set_cases e with ⟨_, e2, _⟩ | ⟨hj, e2⟩
  · cases e2
  · obtain ⟨w, h1, h2⟩ := p.sl j s e2
    exact ⟨w, by rw [List.getElem?_set_ne (Ne.symm hj)]; exact h1, h2⟩⟩
theorem Stp.blank {i : Nat} (s : Stp own ρ H own' ρ' H') (hf : ∀ d, ρ[i]? ≠ some (some (.lk d)) ∧ ρ[i]? ≠ some (some (.io d))) : Stp own ρ H own' (ρ'.set i none) H' where
  keep := s.keep
  dom := s.dom
  nw := s.nw
  fz := fun b ⟨j, x, e1, e2, e3⟩ => by
    rcases getElem?_set_cases e2 with ⟨_, e4, _⟩ | ⟨_, e4⟩
    · cases e4
    · exact s.fz b ⟨j, x, e1, e4, e3⟩
  lk := fun j d e => by
    have hj : i ≠ j := fun q => (hf d).1 (q ▸ e)
    obtain ⟨q1, q2⟩ := s.lk j d e
    exact ⟨by rw [List.getElem?_set_ne hj]; exact q1, q2⟩
  io := fun j d e => by
    have hj : i ≠ j := fun q => (hf d).2 (q ▸ e)
    obtain ⟨⟨d', q1⟩, q2⟩ := s.io j d e
    exact ⟨⟨d', by rw [List.getElem?_set_ne hj]; exact q1⟩, q2⟩
  ln := by rw [List.length_set]; exact s.ln
theorem names_own {T : Str} (hg : Gl X T) (gC : X.mg T = some (.ref (He.ga X.kx T))) (hT : T ≠ "ValueError") (hd : (T == ("__debug__" : Str)) = false := by decide) : Names X T (clsV X.kx T) := ⟨hg, hd, .inl (by unfold clsV; rw [if_neg hT]; exact gC)⟩
variable {body suite : List Stmt} {b₀ : Stmt} {fb : EvS} {fs : Str → EvS} {tbl : Str → Str → Option Bool} {T n : Str} {i : Nat}
end
end
end Ev
set_option Elab.async false
set_option linter.all false
set_option autoImplicit false
set_option maxRecDepth 100000
namespace Ev
open PySem PySem.Spec L2
open PyProof.Rows hiding St
noncomputable section
def evRs : List Ev → Env → Out (List Res)
  | [], ρ => .ok [] ρ
  | f :: fs, ρ => match f ρ with
    | .ok r ρ1 => (match evRs fs ρ1 with
      | .ok rs ρ2 => .ok (r :: rs) ρ2
      | .exc c ρ2 => .exc c ρ2
      | .stuck => .stuck)
    | .exc c ρ1 => .exc c ρ1
    | .stuck => .stuck
/-- results not yet stored: each list of its own stands apart from all else -/
def RsOk (K : Kx) (H : Hp) (al0 : Addr → Prop) (src : Addr → Prop) (al : Addr → Prop) (own : Own) : (Addr → Prop) → List Res → List V → Prop
  | _, [], [] => True
  | S, .sh d :: rs, v :: vs => (∃ as, Rp K H v d as ∧ ∀ b ∈ as, Zf al own b) ∧ RsOk K H al0 src al own S rs vs
  | S, .ow d :: rs, v :: vs => ∃ a, OwV K H (Zf al own) v d a ∧ ¬ al a ∧ ¬ S a ∧ al0 a ∧ Free own a ∧ src a ∧ RsOk K H al0 src al own (fun b => S b ∨ b = a) rs vs
  | _, _, _ => False
def SemRs (K : Kx) (W : WX) (fs : List Ev) : TA := fun σ H Q => ∃ al own ρ, Pre K al own ρ σ H ∧ match evRs fs ρ with
  | .ok rs ρ1 => ∀ vs H' own' al', Pre K al' own' ρ1 σ H' → Stp own ρ H own' ρ1 H' → (∀ b, al' b → al b) → (∀ b, Zf al own b → H b ≠ none → al' b) → (∀ S : Addr → Prop, (∀ b, S b → ¬ al b) → RsOk K H' al (fun a => H a = none ∨ Wr own ρ a) al' own' S rs vs) → Q vs H'
  | .exc c ρ1 => ExE K W al own ρ σ H c ρ1
  | .stuck => False
section
variable {K : Kx} {W : WX} {al al' al0 : Addr → Prop} {own own' own1 own0 : Own} {ρ ρ' ρ1 ρ2 ρ0 : Env} {σ σ1 σ' : St} {H H' H1 H0 : Hp} {X : Cx} {pos p : Pos} {D : Ends} {e : Expr} {es : List Expr} {f : Ev} {fs : List Ev} {src : Addr → Prop}
theorem RsOk.imp {al1 src1 : Addr → Prop} (h1 : ∀ b, al0 b → al1 b) (h2 : ∀ a, src a → src1 a) : ∀ {rs : List Res} {vs : List V} {S : Addr → Prop}, RsOk K H al0 src al own S rs vs → RsOk K H al1 src1 al own S rs vs
  | [], [], S, _ => trivial
  | [], _ :: _, S, h => h.elim
  | .sh _ :: _, [], S, h => h.elim
  | .ow _ :: _, [], S, h => h.elim
  | .sh d :: rs, v :: vs, S, ⟨a, b⟩ => ⟨a, RsOk.imp h1 h2 b⟩
  | .ow d :: rs, v :: vs, S, ⟨a, q1, q2, q3, q4, q5, q6, q7⟩ => ⟨a, q1, q2, q3, h1 a q4, q5, h2 a q6, RsOk.imp h1 h2 q7⟩
theorem RsOk.grow (g : Grow H H') : ∀ {rs : List Res} {vs : List V} {S : Addr → Prop}, RsOk K H al0 src al own S rs vs → RsOk K H' al0 src al own S rs vs
  | [], [], S, _ => trivial
  | [], _ :: _, S, h => h.elim
  | .sh _ :: _, [], S, h => h.elim
  | .ow _ :: _, [], S, h => h.elim
  | .sh d :: rs, v :: vs, S, ⟨⟨as, r, z⟩, b⟩ => ⟨⟨as, g.rp r, z⟩, RsOk.grow g b⟩
  | .ow d :: rs, v :: vs, S, ⟨a, q1, q2, q3, q4, q5, q6, q7⟩ => ⟨a, g.owV q1, q2, q3, q4, q5, q6, RsOk.grow g q7⟩
theorem OwV.keep {Z Z' : Addr → Prop} {Wd : Addr → Prop} {v : V} {d : PyData} {a : Addr} (hk : ∀ b o, H b = some o → ¬ Wd b → NT o → H' b = some o) (hm : ∀ b, Wd b → ∃ o, H b = some o ∧ Mut (some o)) (h : OwV K H Z v d a) (ha : ¬ Wd a) (hz : ∀ b, Z b → ¬ Wd b) (hz' : ∀ b, Z b → H b ≠ none → Z' b) : OwV K H' Z' v d a := by
  obtain ⟨e, ⟨xs, ds, as, h1, h2, h3, h4⟩ | ⟨o, xs, ds, as, h1, h2, h0, h3, h4⟩⟩ := h
  · exact ⟨e, .inl ⟨xs, ds, as, h1, hk a _ h2 ha (trivial), RpA.keep hk hm _ _ _ h3 fun b hb => hz b (h4 b hb), fun b hb => hz' b (h4 b hb) (RpA.there _ _ _ h3 b hb)⟩⟩
  · exact ⟨e, .inr ⟨o, xs, ds, as, h1, hk a _ h2 ha h0.nt, h0, RpK.keep hk hm _ _ _ h3 fun b hb => hz b (h4 b hb), fun b hb => hz' b (h4 b hb) (RpK.there _ _ _ h3 b hb)⟩⟩
theorem semRs_nil {Q : List V → Hp → Prop} (h : SemRs K W [] σ H Q) : tNil σ H Q := by
  obtain ⟨al, own, ρ, p, h⟩ := h
  exact h [] H own al p .refl (fun _ h => h) (fun _ h _ => h.1) fun _ _ => trivial
theorem Stp.zf (s : Stp own ρ H own' ρ' H') {b : Addr} (z : Free own b) (t : H b ≠ none) : Free own' b := fun i e => (s.nw i b e).elim (fun ⟨j, q⟩ => z j q) t
theorem semRs_cons {Q : List V → Hp → Prop} (h : SemRs K W (f :: fs) σ H Q) : tCons (SemE K W f) (SemRs K W fs) σ H Q := by
  obtain ⟨al, own, ρ, p, h⟩ := h
  refine ⟨al, own, ρ, p, ?_⟩
  simp only [evRs] at h
  cases e : f ρ with
  | stuck => simp only [e] at h
  | exc c ρ1 => simp only [e] at h ⊢; exact h
  | ok r ρ1 =>
    simp only [e] at h ⊢
    cases r with
    | sh d =>
      intro v H1 own1 bs p1 s1 r1 z1
      refine ⟨al, own1, ρ1, p1, ?_⟩
      cases q : evRs fs ρ1 with
      | stuck => simp only [q] at h
      | exc c ρ2 => simp only [q] at h ⊢; exact h.after s1
      | ok rs ρ2 =>
        simp only [q] at h ⊢
        intro vs H2 own2 al2 p2 s2 m1 m2 m3
        obtain ⟨r2, z2⟩ := s2.rp p1 r1 z1
        refine h (v :: vs) H2 own2 al2 p2 (s1.trans s2) m1 (fun b zb tb => m2 b ⟨zb.1, s1.zf zb.2 tb⟩ (fun e => tb (s1.dom b e))) fun S hS => ⟨⟨bs, r2, fun b hb => ⟨m2 b (z1 b hb) (Rp.there _ _ _ r1 b hb), (z2 b hb).2⟩⟩, ?_⟩
        exact RsOk.imp (fun _ h => h) (fun a ha => s1.src ha) (m3 S hS)
    | ow d =>
      intro v H1 own1 a p1 s1 o ha hf hw
      refine ⟨_, own1, ρ1, p1, ?_⟩
      cases q : evRs fs ρ1 with
      | stuck => simp only [q] at h
      | exc c ρ2 => simp only [q] at h ⊢; exact fun H2 own2 p2 s2 => h H2 own2 (p2.mono al_but) (s1.trans s2)
      | ok rs ρ2 =>
        simp only [q] at h ⊢
        intro vs H2 own2 al2 p2 s2 m1 m2 m3
        have ht : H1 a ≠ none := by
          obtain ⟨_, h2, _⟩ := o.at
          rw [h2]; exact fun z => nomatch z
        refine h (v :: vs) H2 own2 al2 p2 (s1.trans s2) (fun b hb => (m1 b hb).1) (fun b zb tb => m2 b ⟨⟨zb.1, fun e => ?_⟩, s1.zf zb.2 tb⟩ (fun e => tb (s1.dom b e))) fun S hS => ⟨a, ?_, fun z => (m1 a z).2 rfl, fun z => hS a z ha, ha, s2.zf hf ht, hw, ?_⟩
        · rcases hw with hw | ⟨i, _, hw, _⟩
          · exact tb (e ▸ hw)
          · exact zb.2 i (e ▸ hw)
        · exact OwV.keep (Wd := Wr own1 ρ1) s2.keep p1.wrM o hf.wr (fun b zb => zb.2.wr) fun b zb tb => ⟨m2 b zb tb, s2.zf zb.2 tb⟩
        · exact RsOk.imp (fun b h => h.1) (fun a ha => s1.src ha) (m3 _ fun b hb => hb.elim (fun hb hal => hS b hb hal.1) fun e hal => hal.2 e)
theorem pa_r0 : PA X [] (SemRs X.kx W []) := PA.imp pa_nil fun _ _ _ h => semRs_nil h
theorem pa_r (ha : PE X e (SemE X.kx W f)) (hr : PA X es (SemRs X.kx W fs)) (hs : starEach (e :: es) X.env = (false, eval e X.env) :: starEach es X.env := by rfl) : PA X (e :: es) (SemRs X.kx W (f :: fs)) := PA.imp (pa_cons ha hr hs) fun _ _ _ h => semRs_cons h
def bindR : Tg → Res → Env → Option Env
  | .nm i, r, ρ => putR i r ρ
  | .tup ts, .sh (.tuple ds), ρ => bindTs ts ds ρ
  | _, _, _ => none
def bindRs : List Tg → List Res → Env → Option Env
  | [], [], ρ => some ρ
  | t :: ts, r :: rs, ρ => match bindR t r ρ with
    | some ρ' => bindRs ts rs ρ'
    | none => none
  | _, _, _ => none
/-- some results are stored: S of the apart ones are now owned -/
structure Mid (K : Kx) (al0 : Addr → Prop) (own0 : Own) (ρ0 : Env) (H0 : Hp) (al : Addr → Prop) (own : Own) (S : Addr → Prop) (own1 : Own) (ρ1 : Env) (σ1 : St) (H : Hp) : Prop where
  pre : Pre K (fun b => al b ∨ S b) own1 ρ1 σ1 H
  stp : Stp own0 ρ0 H0 own1 ρ1 H
  sub : ∀ b, al b ∨ S b → al0 b
  off : ∀ b, S b → ¬ al b
  ow : ∀ i b, own1 i = some b → (∃ j, own j = some b) ∨ S b
theorem Mid.zf {S : Addr → Prop} (m : Mid K al0 own0 ρ0 H0 al own S own1 ρ1 σ1 H) {b : Addr} (z : Zf al own b) : Zf (fun b => al b ∨ S b) own1 b := ⟨.inl z.1, fun i e => (m.ow i b e).elim (fun ⟨j, q⟩ => z.2 j q) fun s => m.off b s z.1⟩
theorem Mid.ash {S : Addr → Prop} (m : Mid K al0 own0 ρ0 H0 al own S own1 ρ1 σ1 H) {i : Nat} {v : V} {d : PyData} {as : List Addr} (r : Rp K H v d as) (z : ∀ b ∈ as, Zf al own b) (e : putR i (.sh d) ρ1 = some ρ2) : Mid K al0 own0 ρ0 H0 al own S (own1.drop i) ρ2 (σ1.set i (some v)) H := by
  obtain ⟨p2, s2⟩ := put_sh m.pre e r fun b hb => m.zf (z b hb)
  exact ⟨p2, m.stp.trans s2, m.sub, m.off, fun j b e => m.ow j b (Own.drop_some e).1⟩
theorem Mid.aow {S : Addr → Prop} (m : Mid K al0 own0 ρ0 H0 al own S own1 ρ1 σ1 H) {i : Nat} {v : V} {d : PyData} {a : Addr} (o : OwV K H (Zf al own) v d a) (h1 : ¬ al a) (h2 : ¬ S a) (h3 : al0 a) (h4 : Free own a) (h5 : H0 a = none ∨ Wr own0 ρ0 a) (e : putR i (.ow d) ρ1 = some ρ2) :
    Mid K al0 own0 ρ0 H0 al own (fun b => S b ∨ b = a) (own1.put i a) ρ2 (σ1.set i (some v)) H := by
  have f1 : Free own1 a := fun j e => (m.ow j a e).elim (fun ⟨k, q⟩ => h4 k q) h2
  have p1 : Pre K (fun b => (al b ∨ S b ∨ b = a) ∧ b ≠ a) own1 ρ1 σ1 H := m.pre.mono fun b hb => ⟨hb.elim .inl fun h => .inr (.inl h), fun e => hb.elim (fun h => h1 (e ▸ h)) fun h => h2 (e ▸ h)⟩
  have o1 : OwV K H (Zf (fun b => (al b ∨ S b ∨ b = a) ∧ b ≠ a) own1) v d a := o.mono fun b hb => (m.zf hb).mono fun b hb => ⟨hb.elim .inl fun h => .inr (.inl h), fun e => hb.elim (fun h => h1 (e ▸ h)) fun h => h2 (e ▸ h)⟩
  have p2 := put_ow (al := fun b => al b ∨ S b ∨ b = a) p1 e o1 (.inr (.inr rfl)) f1
  refine ⟨p2, put_ow_stp m.stp e h5, fun b hb => hb.elim (fun h => m.sub b (.inl h)) fun h => h.elim (fun h => m.sub b (.inr h)) fun e => e ▸ h3, fun b hb => hb.elim (m.off b) fun e h => h1 (e ▸ h), fun j b e => ?_⟩
  by_cases hj : j = i
  · subst hj
    rw [Own.put_same] at e
    cases e
    exact .inr (.inr rfl)
  · rw [Own.put_ne hj] at e
    exact (m.ow j b e).imp id .inl
def SemGRs (K : Kx) (ts : List Tg) : TGs := fun vs σ H Q => ∃ al0 own0 ρ0 H0 al own S own1 ρ1 rs ρ2, Mid K al0 own0 ρ0 H0 al own S own1 ρ1 σ H ∧ RsOk K H al0 (fun a => H0 a = none ∨ Wr own0 ρ0 a) al own S rs vs ∧ bindRs ts rs ρ1 = some ρ2 ∧
  ∀ S2 own2 σ2, Mid K al0 own0 ρ0 H0 al own S2 own2 ρ2 σ2 H → Q σ2 H
/-- a target stores as told, whatever stands -/
def GR (X : Cx) (e : Expr) (t : Tg) : Prop := (∃ i x, t = .nm i ∧ (∃ p, e = .Name x p) ∧ PG X e (gName i)) ∨ (∃ ts, t = .tup ts ∧ PG X e (SemG X.kx (.tup ts)))
theorem gr_nm {i : Nat} {x : Str} (hN : X.N.Nodup) (hi : X.N[i]? = some x) (hx : Loc X.env.scope x) (hf : X.fn x = true ∨ X.env.scope.names.lookup x = some .local := by first | exact .inl rfl | exact .inr rfl | assumption) : GR X (.Name x pos) (.nm i) := .inl ⟨i, x, rfl, ⟨_, rfl⟩, pg_name hN hi hx hf⟩
theorem r_nil : PGs X [] (SemGRs X.kx []) := PGs.imp pgs_nil fun vs σ H Q ⟨al0, own0, ρ0, H0, al, own, S, own1, ρ1, rs, ρ2, m, r, b, k⟩ => by
  cases rs with
  | cons _ _ => simp [bindRs] at b
  | nil =>
    cases vs with
    | cons _ _ => exact r.elim
    | nil =>
      simp only [bindRs, Option.some.injEq] at b
      subst b
      exact ⟨rfl, k S own1 σ m⟩
theorem r_cons {t : Tg} {ts : List Tg} (h1 : GR X e t) (h2 : PGs X es (SemGRs X.kx ts)) (hs : (assignEach (e :: es) X.env).map (·.2) = assign e X.env :: (assignEach es X.env).map (·.2) := by rfl) : PGs X (e :: es) (SemGRs X.kx (t :: ts)) := by
  rcases h1 with ⟨i, x, rfl, _, hg⟩ | ⟨tt, rfl, hg⟩
  · refine PGs.imp (pgs_cons hg h2 hs) fun vs σ H Q ⟨al0, own0, ρ0, H0, al, own, S, own1, ρ1, rs, ρ2, m, r, b, k⟩ => ?_
    cases rs with
    | nil => simp [bindRs] at b
    | cons r0 rs =>
      cases vs with
      | nil => cases r0 <;> exact r.elim
      | cons v vs =>
        simp only [bindRs] at b
        cases q : bindR (.nm i) r0 ρ1 with
        | none => simp [q] at b
        | some ρ3 =>
          simp only [q] at b
          refine ⟨v, vs, rfl, ?_⟩
          cases r0 with
          | sh d =>
            obtain ⟨⟨as, rr, z⟩, r2⟩ := r
            exact ⟨al0, own0, ρ0, H0, al, own, S, _, ρ3, rs, ρ2, m.ash rr z q, r2, b, k⟩
          | ow d =>
            obtain ⟨a, q1, q2, q3, q4, q5, q6, q7⟩ := r
            exact ⟨al0, own0, ρ0, H0, al, own, _, _, ρ3, rs, ρ2, m.aow q1 q2 q3 q4 q5 q6 q, q7, b, k⟩
  · refine PGs.imp (pgs_cons hg h2 hs) fun vs σ H Q ⟨al0, own0, ρ0, H0, al, own, S, own1, ρ1, rs, ρ2, m, r, b, k⟩ => ?_
    cases rs with
    | nil => simp [bindRs] at b
    | cons r0 rs =>
      cases vs with
      | nil => cases r0 <;> exact r.elim
      | cons v vs =>
        simp only [bindRs] at b
        cases q : bindR (.tup tt) r0 ρ1 with
        | none => simp [q] at b
        | some ρ3 =>
          simp only [q] at b
          refine ⟨v, vs, rfl, ?_⟩
          cases r0 with
          | ow d => simp [bindR] at q
          | sh d =>
            cases d with
            | tuple ds =>
              obtain ⟨⟨as, rr, z⟩, r2⟩ := r
              refine ⟨_, own1, ρ1, _, as, ρ3, m.pre, rr, fun b hb => m.zf (z b hb), q, fun σ2 own2 p2 s2 a2 => ?_⟩
              refine ⟨al0, own0, ρ0, H0, al, own, S, own2, ρ3, rs, ρ2, ⟨p2, m.stp.trans s2, m.sub, m.off, fun j b e => ?_⟩, r2, b, k⟩
              rcases s2.nw j b e with ⟨j', q'⟩ | q'
              · exact m.ow j' b q'
              · obtain ⟨o, q2, _⟩ := p2.mu j b e
                rw [q'] at q2
                cases q2
            | none => simp [bindR] at q
            | bool _ => simp [bindR] at q
            | int _ => simp [bindR] at q
            | str _ => simp [bindR] at q
            | list _ => simp [bindR] at q
            | dict _ => simp [bindR] at q
def sPar (ts : List Tg) (fs : List Ev) : EvS := fun ρ => match evRs fs ρ with
  | .ok rs ρ1 => (match bindRs ts rs ρ1 with
    | some ρ2 => .next ρ2
    | none => .stuck)
  | .exc c ρ1 => .exc c ρ1
  | .stuck => .stuck
theorem RsOk.length : ∀ {rs : List Res} {vs : List V} {S : Addr → Prop}, RsOk K H al0 src al own S rs vs → vs.length = rs.length
  | [], [], S, _ => rfl
  | [], _ :: _, S, h => h.elim
  | .sh _ :: _, [], S, h => h.elim
  | .ow _ :: _, [], S, h => h.elim
  | .sh d :: rs, v :: vs, S, ⟨a, b⟩ => by simp [RsOk.length b]
  | .ow d :: rs, v :: vs, S, ⟨a, q1, q2, q3, q4, q5, q6, q7⟩ => by simp [RsOk.length q7]
theorem bindRs_length : ∀ {ts : List Tg} {rs : List Res} {ρ ρ' : Env}, bindRs ts rs ρ = some ρ' → rs.length = ts.length
  | [], [], _, _, _ => rfl
  | [], _ :: _, _, _, h => by simp [bindRs] at h
  | _ :: _, [], _, _, h => by simp [bindRs] at h
  | t :: ts, r :: rs, ρ, ρ', h => by
    simp only [bindRs] at h
    split at h
    · simp [bindRs_length h]
    · cases h
theorem semPar {ts : List Tg} {R : List V → Hp → Prop} (h : SemS K W (sPar ts fs) D σ H) (k : ∀ vs H1, SemGRs K ts vs σ H1 D.nx → vs.length = ts.length → (∀ p, H1 p = none → SemGRs K ts vs σ (upd H1 p (.tup vs)) D.nx) → R vs H1) : SemRs K W fs σ H R := by
  obtain ⟨al, own, ρ, p, h⟩ := h
  refine ⟨al, own, ρ, p, ?_⟩
  simp only [sPar] at h
  cases e : evRs fs ρ with
  | stuck => simp only [e] at h; exact h
  | exc c ρ' => simp only [e] at h ⊢; exact ExS.toE h
  | ok rs ρ1 =>
    simp only [e] at h ⊢
    cases q : bindRs ts rs ρ1 with
    | none => simp only [q] at h; exact h.elim
    | some ρ2 =>
      simp only [q] at h
      intro vs H' own' al' p' s' m1 m2 m3
      have r := m3 (fun _ => False) (fun _ z => z.elim)
      have md : ∀ H2, Grow H' H2 → Mid K al own ρ H al' own' (fun _ => False) own' ρ1 σ H2 := fun H2 g => ⟨(p'.grow g).mono fun b h => .inl h, s'.trans g.stp, fun b hb => hb.elim (m1 b) fun z => z.elim, fun _ z => z.elim, fun i b e => .inl ⟨i, e⟩⟩
      have fin : ∀ H2, Grow H' H2 → SemGRs K ts vs σ H2 D.nx := fun H2 g => ⟨al, own, ρ, H, al', own', _, own', ρ1, rs, ρ2, md H2 g, r.grow g, q, fun S2 own2 σ2 m => h σ2 H2 own2 (m.pre.mono fun b hb => m.sub b hb) m.stp⟩
      exact k vs H' (fin H' .refl) (by rw [r.length, bindRs_length q]) fun p hp => fin _ (Grow.upd hp)
/-- targets that aren't all plain locals -/
theorem s_parG {ts : List Tg} {ts' : List Expr} {kt k2 : _} {pt pt2 : Pos} (hc : X.calm = true) (hes : PA X es (SemRs X.kx W fs)) (hg : PGs X ts' (SemGRs X.kx ts)) (hl : ts'.length = ts.length := by rfl) (hb : ts.length ≤ 1000 := by decide)
    (hw : swappedStores [.Tuple ts' kt pt] (.Tuple es k2 pt2) X.env = pure none := by rfl) (hs : swapsWithSole [.Tuple ts' kt pt] (.Tuple es k2 pt2) pos.line X.env = pure false := by rfl) (hn : (assignEach ts' X.env).length = ts'.length := by rfl) (hst : (assignEach ts' X.env).findIdx? (·.1) = none := by rfl) (h1 : (assignEach [.Tuple ts' kt pt] X.env).map (·.2) = [assign (.Tuple ts' kt pt) X.env] := by rfl) :
    PS X (.Assign [.Tuple ts' kt pt] (.Tuple es k2 pt2) pos) (SemS X.kx W (sPar ts fs)) :=
  PS.imp (ps_asg (pe_tup hes) (pg_tup hc hg hn hst) hs hw h1) fun D σ H h => semPar h fun vs H1 _ l k => ⟨by rw [l, line_eq, lineN_eq]; omega, fun p hp => ⟨p, vs, rfl, .inl (.inl upd_same), by rw [l, hl], k p hp⟩⟩
/-- two plain locals -/
theorem s_par2 {i j : Nat} {x y : Str} {a b : Expr} {px py pt pt2 : Pos} {kt k2 : _} (hc : X.calm = true) (hN : X.N.Nodup) (hi : X.N[i]? = some x) (hj : X.N[j]? = some y) (hij : i ≠ j)
    (hx : X.env.scope.names.lookup x = some .local) (hy : X.env.scope.names.lookup y = some .local) (ha : PA X [a, b] (SemRs X.kx W fs))
    (hw : swappedStores [.Tuple [.Name x px, .Name y py] kt pt] (.Tuple [a, b] k2 pt2) X.env = pure (some [x, y])) (hs : swapsWithSole [.Tuple [.Name x px, .Name y py] kt pt] (.Tuple [a, b] k2 pt2) pos.line X.env = pure false := by rfl) :
    PS X (.Assign [.Tuple [.Name x px, .Name y py] kt pt] (.Tuple [a, b] k2 pt2) pos) (SemS X.kx W (sPar [.nm i, .nm j] fs)) :=
  PS.imp (ps_par hc hN hi hj hij hx hy ha hw hs) fun D σ H h => semPar h fun vs H1 k l _ => by
    match vs, l with
    | [v, w], _ =>
      refine ⟨v, w, rfl, ?_⟩
      obtain ⟨al0, own0, ρ0, H0, al, own, S, own1, ρ1, rs, ρ2, m, r, b, k⟩ := k
      match rs, r, b with
      | [r1, r2], r, b =>
        simp only [bindRs, bindR] at b
        cases q1 : putR i r1 ρ1 with
        | none => simp [q1] at b
        | some ρ3 =>
          simp only [q1] at b
          cases q2 : putR j r2 ρ3 with
          | none => simp [q2] at b
          | some ρ4 =>
            simp only [q2, Option.some.injEq] at b
            subst b
            cases r1 with
            | sh d =>
              obtain ⟨⟨as, rr, z⟩, r⟩ := r
              have m2 := m.ash rr z q1
              cases r2 with
              | sh d2 => obtain ⟨⟨as2, rr2, z2⟩, r⟩ := r; exact k _ _ _ (m2.ash rr2 z2 q2)
              | ow d2 => obtain ⟨a, w1, w2, w3, w4, w5, w6, w7⟩ := r; exact k _ _ _ (m2.aow w1 w2 w3 w4 w5 w6 q2)
            | ow d =>
              obtain ⟨a, w1, w2, w3, w4, w5, w6, r⟩ := r
              have m2 := m.aow w1 w2 w3 w4 w5 w6 q1
              cases r2 with
              | sh d2 => obtain ⟨⟨as2, rr2, z2⟩, r⟩ := r; exact k _ _ _ (m2.ash rr2 z2 q2)
              | ow d2 => obtain ⟨a, w1, w2, w3, w4, w5, w6, w7⟩ := r; exact k _ _ _ (m2.aow w1 w2 w3 w4 w5 w6 q2)
      | [], _, b => simp [bindRs] at b
      | [_], _, b => simp only [bindRs] at b; split at b <;> simp [bindRs] at b
      | _ :: _ :: _ :: _, r, b =>
        simp only [bindRs] at b
        split at b
        · split at b
          · simp [bindRs] at b
          · cases b
        · cases b
end
end
end Ev
set_option Elab.async false
set_option linter.all false
set_option autoImplicit false
set_option maxRecDepth 100000
namespace Ev
open PySem PySem.Spec L2
open PyProof.Rows hiding St
noncomputable section
section
variable {K : Kx} {W : WX} {al : Addr → Prop} {own own' : Own} {ρ ρ' : Env} {σ σ1 : St} {H H' : Hp} {X : Cx} {pos p : Pos} {D : Ends} {P : St → Prop} {e a b : Expr} {rest : List Expr} {f fa fb : Ev} {t ta tb : Tv} {x : Str}
theorem SemT.mono {Q Q' : Bool → Hp → Prop} (h : SemT K W t σ H Q) (i : ∀ b H, Q b H → Q' b H) : SemT K W t σ H Q' := by
  obtain ⟨al, own, ρ, p, h⟩ := h
  refine ⟨al, own, ρ, p, ?_⟩
  cases e : t ρ with
  | stuck => simp only [e] at h
  | exc c ρ' => simp only [e] at h ⊢; exact h
  | ok k ρ' => simp only [e] at h ⊢; exact fun H' own' p' s' => i k H' (h H' own' p' s')
end
def excCB (K : PySem.W.Frag) (D : Addr) : Bool :=
  decide (PySem.W.findIn K (.ref D) "__getattribute__" = some (some (.builtin "BaseException.__getattribute__"))) && (decide (PySem.W.findIn K (.ref D) "__getattr__" = some none) && (decide (PySem.W.subIn K (.ref D) (.type "BaseException") = some true) && (PySem.W.hasDictIn K D &&
  (decide (PySem.W.findIn K (.ref D) "__class__" = some (some (.builtin "object.__class__"))) && (decide (PySem.W.specialIn K (.builtin "object.__class__") "__get__" = some (some (.builtin "getset_descriptor.__get__"))) && (decide (PySem.W.takesIn K (.builtin "object.__class__") = some true) && decide (PySem.W.mroIn K D (.type "object") = some true)))))))
theorem excCB_ok {K : PySem.W.Frag} {D : Addr} (h : excCB K D = true) : ExcC K D := by
  simp only [excCB, Bool.and_eq_true, decide_eq_true_eq] at h
  obtain ⟨h1, h2, h3, h4, h5, h6, h7, h8⟩ := h
  exact ⟨h1, h2, h3, h4, h5, h6, h7, h8⟩
theorem rp_ints {K : Kx} {H : Hp} : ∀ ns : List Int, RpA K H (ns.map V.int) (ns.map PyData.int) []
  | [] => .nil
  | n :: ns => .cons (.int n) (rp_ints ns)
theorem law_sp {K : Kx} {H : Hp} {k : Nat} {F : FnV} {a : Addr} {ns : List Int} {ρ' : Env} (tb : TabsI K H) (hS : SqL K.fr H a (ns.map V.int)) (hF : F [.sh (.list (ns.map PyData.int))] = .ret (.sh (.bool true)) ρ') : spV K 1 k F [.ref a] H (fun v _ => v = .bl true) fun _ _ _ => False := by
  refine ⟨rfl, fun _ => True, fun _ => none, [.sh (.list (ns.map PyData.int))], ?_, ?_⟩
  · refine ⟨tb, fun _ _ => trivial, fun i j a e => (nomatch e), fun i a e => (nomatch e), by simp [entry], fun i s e => ?_⟩
    have e := entry_get e
    cases i with
    | zero =>
      cases e
      refine ⟨.ref a, rfl, ?_⟩
      rcases hS with h | h
      · exact ⟨_, .lst h (rp_ints ns), fun b _ => ⟨trivial, fun i e => (nomatch e)⟩⟩
      · exact ⟨_, .lsk h (rp_ints ns), fun b _ => ⟨trivial, fun i e => (nomatch e)⟩⟩
    | succ i => simp at e
  · rw [hF]
    intro v σ' H' own' as _ _ r _
    cases r
    rfl
theorem cx_none {P : Program} {w : World} {H : Hp} {s : Shared} {e : Value} {s' : Shared} (h : L2.CX P w [] H s (fun _ _ _ => False) e s') : False := by
  obtain ⟨_, _, _, _, _, _, _, _, _, _, _, _, z⟩ := h
  exact z
end
end Ev
namespace Ev
open PySem PySem.Spec L2 PyProof.Rows
section
variable {P : Program} {w : World} {K : PySem.W.Frag} {mg mb : Str → Option Value} {CX : CXT} {k : Nat} {g a : Addr} {fd : FuncData} {x : Str} {sp : Sp} {t : Shared} {us : List Value} {ns : List Int}
/-- the end that is wanted -/
def GoodEnd (t : Shared) (r : Result) (t' : Shared) : Prop := r = .ok (.ret (.bool true)) ∧ OldK t.heap t'.heap ∧ t'.os = t.os ∧ AllBare t'.gens
/-- the law's def is called where nothing but the script, if anything, is tracked -/
theorem law_core (KX : K.In t.heap) (nm : t.heap.Ns mainGlobals mg) (nb : t.heap.Ns builtinsNs mb) (bb : ∀ x : Str, x ≠ "__name__" → mb x = bootBuiltins x) (nl : t.heap.NoLimit) (ge : t.gens = #[])
    (ea : t.heap.get? a = some { cls := .type "list", data := .seq us.toArray }) (room : RoomG k callerA) (F : ∀ base : Heap, K.In base → base.Ns mainGlobals mg → FnG P w K mg base CX k g fd [x] sp)
    (bind : ∀ (s : Shared) (u : Value), BindsTo s fd ⟨[u], []⟩ [(x, u)]) (noX : ∀ H e t', CX [] H t (fun _ _ _ => False) e t' → False) {H : Hp} (hO : Only H) (good : sp [.ref a] H (fun v _ => v = .bl true) fun _ _ _ => False)
    (ok : HOk P w H t.heap) (alone : ∀ b, H b ≠ none → b = a) (apart : H a ≠ none → K.lookup a = none) : codeAny (model P w) callerA (.call (.ref g) ⟨[.ref a], []⟩) (GoodEnd t) t := by
  have below : ∀ {b : Addr} {o : Obj}, t.heap.get? b = some o → H b = none → (hidT t.heap H).get? b = some o := fun e n => hidT_get e n
  have free : ∀ {b : Addr} {o : Obj}, t.heap.get? b = some o → (b = a → False) → (hidT t.heap H).get? b = some o := fun {b o} e n => below e (Classical.byContradiction fun z => n (alone b z))
  have names : ∀ {b : Addr} {m : Str → Option Value}, t.heap.Ns b m → (hidT t.heap H).Ns b m := fun {b m} ⟨o, es, ep, e, d, r⟩ => by
    refine ⟨o, es, ep, free e fun z => ?_, d, r⟩
    subst z
    rw [ea] at e
    cases e
    cases d
  have kin : K.In (hidT t.heap H) := fun b o e => by
    by_cases n : H b = none
    · exact below (KX b o e) n
    · have z := alone b n
      subst z
      rw [apart n] at e
      cases e
  have md : Mod K mg (hidT t.heap H) := ⟨kin, names nm, ⟨mb, names nb, bb⟩, let ⟨mc, h1, h2⟩ := nl; ⟨mc, names h1, h2⟩⟩
  have start : Env0 P w K mg (hidT t.heap H) callerA [] t H := ⟨rfl, md, fun b o e => of_hidT e, Nat.le_of_eq (hidT_size _ _), trivial, fun b z => absurd (show b ∈ ([] : List Addr) from z) (by simp), ok, .of_eq ge⟩
  refine codeAny_mono ((F _ kin (names nm)).go callerA [] t H ⟨[.ref a], []⟩ [.ref a] [.ref a] _ _ room start (bind t (.ref a)) (.cons rfl .nil) good) fun r t' z => ?_
  cases r with
  | error e => exact (noX H e t' z).elim
  | ok fl =>
    cases fl with
    | next => exact z.elim
    | brk => exact z.elim
    | cont => exact z.elim
    | ret u =>
      obtain ⟨v, H', os, bare, un, ok', rv, q⟩ := z
      cases (show v = .bl true from q)
      cases (show u = Value.bool true from rv)
      refine ⟨rfl, OldK.of_keep fun b o e => ?_, os, bare⟩
      cases q : H b with
      | none => exact un.keep b o e q (fun z => absurd (show b ∈ ([] : List Addr) from z) (by simp)) (by simp)
      | some y =>
        rcases hO b with z | ⟨ob, xs, z⟩
        · rw [q] at z
          cases z
        · have e1 := (ok b _ z).1
          have e2 := (ok' b _ (un.frzs b ob _ z)).1
          rw [e] at e1
          cases e1
          exact e2
theorem law_callG (KX : K.In t.heap) (nm : t.heap.Ns mainGlobals mg) (nb : t.heap.Ns builtinsNs mb) (bb : ∀ x : Str, x ≠ "__name__" → mb x = bootBuiltins x) (nl : t.heap.NoLimit) (ge : t.gens = #[])
    (ea : t.heap.get? a = some { cls := .type "list", data := .seq us.toArray }) (hi : IntsAre us ns) (hl : ns.length ≤ sizeLine) (room : RoomG k callerA) (F : ∀ base : Heap, K.In base → base.Ns mainGlobals mg → FnG P w K mg base CX k g fd [x] sp)
    (bind : ∀ (s : Shared) (u : Value), BindsTo s fd ⟨[u], []⟩ [(x, u)]) (noX : ∀ H e t', CX [] H t (fun _ _ _ => False) e t' → False) (good : ∀ H : Hp, Only H → SqL K H a (ns.map V.int) → sp [.ref a] H (fun v _ => v = .bl true) fun _ _ _ => False) :
    codeAny (model P w) callerA (.call (.ref g) ⟨[.ref a], []⟩) (GoodEnd t) t := by
  have rel := vals_ints hi
  cases at_ : K.lookup a with
  | some o =>
    have e := KX a o at_
    rw [ea] at e
    cases e
    have q : SqL K (fun _ => none) a (ns.map V.int) := .inr ⟨_, us.toArray, _, at_, rfl, rfl, rfl, by rw [List.size_toArray, hi.length]; exact hl, by simpa using rel⟩
    exact law_core KX nm nb bb nl ge ea room F bind noX (fun _ => .inl rfl) (good _ (fun _ => .inl rfl) q) (fun b u z => nomatch (show (none : Option HO) = some u from z)) (fun b z => (z rfl).elim) fun z => (z rfl).elim
  | none =>
    have here : upd (fun _ => none) a (.frz { cls := .type "list", data := .seq us.toArray } (.lst (ns.map V.int))) a = some (.frz { cls := .type "list", data := .seq us.toArray } (.lst (ns.map V.int))) := upd_same
    have other : ∀ b, b ≠ a → upd (fun _ => none) a (.frz { cls := .type "list", data := .seq us.toArray } (.lst (ns.map V.int))) b = none := fun b hb => upd_ne hb
    have hO : Only (upd (fun _ => none) a (.frz { cls := .type "list", data := .seq us.toArray } (.lst (ns.map V.int)))) := fun b => by
      by_cases hb : b = a
      · subst hb
        exact .inr ⟨_, _, here⟩
      · exact .inl (other b hb)
    refine law_core KX nm nb bb nl ge ea room F bind noX hO (good _ hO (.inl (.inr ⟨_, here⟩))) (fun b u z => ?_) (fun b z => Classical.byContradiction fun n => z (other b n)) fun _ => at_
    by_cases hb : b = a
    · subst hb
      cases here.symm.trans z
      exact ⟨ea, by rw [List.length_map]; exact hl, us, _, rel, ea⟩
    · cases (other b hb).symm.trans z
end
theorem walk_ofG {l : PySem.W.OpenLaw} {n k : Nat} {q : Program} {loose : List Str} {XP : (Str → Option Value) → Heap → Prop} {YP : World → Heap → Prop} {d : DefRec} {CX : World → CXT} {x : Str}
    (hn : l.most = some n) (hn2 : n ≤ sizeLine) (hdf : d.params.defaults = []) (hr : Room k callerA)
    (F : ∀ (w : World) (mg : Str → Option Value) (g : Addr) (h : Heap), YP w h → h.Ns mainGlobals mg → mg d.name = some (.ref g) →
      ∃ (K : PySem.W.Frag) (fd : FuncData) (sp : Sp), K.In h ∧ (∀ (s : Shared) (u : Value), BindsTo s fd ⟨[u], []⟩ [(x, u)]) ∧
        (∀ (H : Hp) (a : Addr) (ns : List Int), ns.length ≤ n → (∀ z ∈ ns, Builtin.Int.intBits z ≤ 1048576) → Only H → SqL K H a (ns.map V.int) → sp [.ref a] H (fun v _ => v = .bl true) fun _ _ _ => False) ∧
        ∀ base : Heap, K.In base → base.Ns mainGlobals mg → FnG l.prog w K mg base (CX w) k g fd [x] sp)
    (noX : ∀ (w : World) (H : Hp) (s : Shared) (e : Value) (s' : Shared), CX w [] H s (fun _ _ _ => False) e s' → False) :
    PySem.W.WalkO q loose XP YP l.row.toRowW d [] (fun f vs => PySem.call f vs) := by
  refine Att.attach_callB hn hdf fun w s₀ s₁ mg mb g o pm cd doc a vs ns G Y ho hd hcd hmg hobj hints hlen hbits hg => ?_
  obtain ⟨K, fd, sp, KX, hb, good, hF⟩ := F w mg g _ Y G.T.g hmg
  exact law_callG KX G.T.g G.T.b G.T.builtins G.T.nolimit hg hobj hints (Nat.le_trans hlen hn2) ⟨hr, rfl⟩ hF hb (fun H e s' => noX w H s₁ e s') fun H hO hS => good H a ns hlen hbits hO hS
end Ev
set_option Elab.async false
set_option linter.all false
set_option autoImplicit false
set_option maxRecDepth 100000
namespace Ev
open PySem PySem.Spec L2
open PyProof.Rows hiding St
noncomputable section
section
variable {K : Kx} {W : WX} {al : Addr → Prop} {own own' : Own} {ρ ρ' ρ1 : Env} {σ σ1 σ' : St} {H H' H1 : Hp} {X : Cx} {pos p : Pos} {e : Expr} {f : Ev} {k lv : Nat} {ps : List Str} {F : FnV} {x : Str}
def own1 (a : Addr) : Own := fun j => if j = 0 then some a else none
end
end
end Ev
set_option linter.all false
set_option autoImplicit false
set_option maxRecDepth 100000
namespace Ev
open PySem PySem.Spec L2
open PyProof.Rows hiding St
noncomputable section
theorem lcGo_pure {t : Tg} {vs : List Nat} {tt : Tv} {te : Ev} {ρ0 : Env} (p : PyData → Bool) (g : PyData → PyData) : ∀ (items acc : List PyData), (∀ d ∈ items, ∃ ρ1 ρ2, bindT t d ρ0 = some ρ1 ∧ tt ρ1 = .ok (p d) ρ2 ∧ (p d = true → ∃ r ρ3, te ρ2 = .ok r ρ3 ∧ r.d = g d ∧ wipeE ρ3 vs = ρ0) ∧ (p d = false → wipeE ρ2 vs = ρ0)) →
    lcGo t vs tt te items acc ρ0 = .ok (acc ++ (items.filter p).map g) ρ0
  | [], acc, _ => by simp [lcGo]
  | d :: items, acc, h => by
    obtain ⟨ρ1, ρ2, h1, h2, h3, h4⟩ := h d (by simp)
    have ih := fun acc => lcGo_pure p g items acc fun d hd => h d (by simp [hd])
    simp only [lcGo, h1, h2]
    cases hp : p d with
    | true =>
      obtain ⟨r, ρ3, e1, e2, e3⟩ := h3 hp
      simp only [e1, e3, e2, ih]
      simp [hp]
    | false =>
      simp only [h4 hp, ih]
      simp [hp]
theorem lcGo_map {t : Tg} {vs : List Nat} {tt : Tv} {te : Ev} {ρ0 : Env} (g : PyData → PyData) (items acc : List PyData) (h : ∀ d ∈ items, ∃ ρ1 ρ2, bindT t d ρ0 = some ρ1 ∧ tt ρ1 = .ok true ρ2 ∧ ∃ r ρ3, te ρ2 = .ok r ρ3 ∧ r.d = g d ∧ wipeE ρ3 vs = ρ0) :
    lcGo t vs tt te items acc ρ0 = .ok (acc ++ items.map g) ρ0 := by
  have e : items.filter (fun _ => true) = items := List.filter_eq_self.mpr fun _ _ => rfl
  have q := lcGo_pure (t := t) (vs := vs) (tt := tt) (te := te) (ρ0 := ρ0) (fun _ => true) g items acc fun d hd => by
    obtain ⟨ρ1, ρ2, h1, h2, h3⟩ := h d hd
    exact ⟨ρ1, ρ2, h1, h2, fun _ => h3, fun h => by cases h⟩
  rw [q, e]
/-- every turn goes on -/
theorem forGo_inv {t : Tg} {body : EvS} (I : Nat → Env → Prop) : ∀ (items : List PyData) (k : Nat) (ρ : Env), I k ρ → (∀ i d ρ, items[i]? = some d → I (k + i) ρ → ∃ ρ1 ρ2, bindT t d ρ = some ρ1 ∧ (body ρ1 = .next ρ2 ∨ body ρ1 = .cont ρ2) ∧ I (k + i + 1) ρ2) →
    ∃ ρ', forGo t body items ρ = .next ρ' ∧ I (k + items.length) ρ'
  | [], k, ρ, h0, _ => ⟨ρ, rfl, by simpa using h0⟩
  | d :: items, k, ρ, h0, h => by
    obtain ⟨ρ1, ρ2, h1, h2, h3⟩ := h 0 d ρ rfl h0
    obtain ⟨ρ', e1, e2⟩ := forGo_inv I items (k + 1) ρ2 h3 fun i d ρ hi hI => by
      have := h (i + 1) d ρ (by simpa using hi) (by rw [show k + (i + 1) = k + 1 + i by omega]; exact hI)
      rw [show k + (i + 1) + 1 = k + 1 + i + 1 by omega] at this
      exact this
    refine ⟨ρ', ?_, by rw [List.length_cons, show k + (items.length + 1) = k + 1 + items.length by omega]; exact e2⟩
    rcases h2 with h2 | h2 <;> simp only [forGo, h1, h2, e1]
theorem shp_int (i : Int) : shp (.int i) = true := by simp [shp, SeqAt.shaped, PyData.canLay0, PyData.depth]
theorem shp_bool (i : Bool) : shp (.bool i) = true := by simp [shp, SeqAt.shaped, PyData.canLay0, PyData.depth]
theorem fEq_int (i j : Int) : fEq (.int i) (.int j) = some (.sh (.bool (decide (i = j)))) := by
  have e : (PyData.int i).eqv (.int j) = decide (i = j) := by
    simp only [PyData.eqv]
    by_cases h : i = j <;> simp [h]
  simp [fEq, shp_int, e]
theorem fNe_int (i j : Int) : fNe (.int i) (.int j) = some (.sh (.bool (!decide (i = j)))) := by
  have e : (PyData.int i).eqv (.int j) = decide (i = j) := by
    simp only [PyData.eqv]
    by_cases h : i = j <;> simp [h]
  simp [fNe, shp_int, e]
theorem modB_pos {i j : Int} (h : 0 < j) : modB i j = true := by
  unfold modB
  simp [h]
theorem sSeq_next {a b : EvS} {ρ ρ1 : Env} (h : a ρ = .next ρ1) : sSeq a b ρ = b ρ1 := by
  unfold sSeq
  rw [h]
theorem evFor_run {os : List Opd} {mk : List PyData → Option (List PyData)} {t : Tg} {body : EvS} {ρ ρ1 : Env} {as : List Arg} {ds items : List PyData} {o : OutS} (h1 : evOs os ρ = .ok as ρ1) (h2 : looks ρ1 as = some ds) (h3 : mk ds = some items) (h4 : forGo t body items (lks as ρ1) = o) :
    evFor os mk t body ρ = o.on (uns as ρ1) := by
  unfold evFor
  rw [h1]
  dsimp only
  rw [h2]
  dsimp only
  rw [h3]
  dsimp only
  rw [h4]
theorem free_none : Sl.free none = true := rfl
theorem free_sh (d : PyData) : Sl.free (some (.sh d)) = true := rfl
theorem free_ow (d : PyData) : Sl.free (some (.ow d)) = true := rfl
theorem free_ex (a : Addr) (c : Str) : Sl.free (some (.ex a c)) = true := rfl
theorem free_io (d : PyData) : Sl.free (some (.io d)) = false := rfl
theorem free_lk (d : PyData) : Sl.free (some (.lk d)) = false := rfl
theorem cutD_to {α : Type} (xs : List α) (k : Nat) : cutD xs none (some (k : Int)) = xs.take k := by
  unfold cutD
  rw [HT.sIx_none, HT.sIx_nat, List.drop_zero, Nat.sub_zero]
  by_cases h : k ≤ xs.length
  · rw [Nat.min_eq_left h]
  · rw [Nat.min_eq_right (by omega), List.take_of_length_le (Nat.le_refl _), List.take_of_length_le (by omega)]
theorem intsD_map (ns : List Int) : intsD (ns.map PyData.int) = some ns := by
  induction ns with
  | nil => rfl
  | cons n ns ih => simp [intsD, ih]
end
end Ev
set_option Elab.async false
set_option linter.all false
set_option autoImplicit false
set_option maxRecDepth 100000
namespace Ev
open PySem PySem.Spec L2
open PyProof.Rows hiding St
noncomputable section
section
variable {K : Kx} {W : WX} {al : Addr → Prop} {own own' : Own} {ρ ρ' : Env} {σ : St} {H H' : Hp} {X : Cx} {pos p : Pos}
def fEqX : PyData → PyData → Option Res
  | .str x, .str y => some (.sh (.bool (decide (x = y))))
  | d, e => fEq d e
def fNeX : PyData → PyData → Option Res
  | .str x, .str y => some (.sh (.bool (!decide (x = y))))
  | d, e => fNe d e
abbrev rEqX (K : Kx) : R2 := fun x y H Q => rEq x y H Q ∨ rEqD K x y H Q
abbrev rNeX (K : Kx) : R2 := fun x y H Q => rNe x y H Q ∨ rNeD K x y H Q
theorem op_eqX (hu : X.A.units + 64 < cLine) : OpR X (compareOp .Eq) (rEqX X.kx) := op_eq.or (op_eqD hu)
theorem op_neX (hu : X.A.units + 64 < cLine) : OpR X (compareOp .NotEq) (rNeX X.kx) := op_ne.or (op_neD hu)
theorem ok_eqX : Ok2 K (rEqX K) fEqX := by
  intro Z H x y d e res Q hx hy h q
  by_cases c : ∃ i j, d = .str i ∧ e = .str j
  · obtain ⟨i, j, rfl, rfl⟩ := c
    cases h
    rw [hx.str, hy.str]
    refine .inl ⟨rfl, ?_⟩
    have : decide (V.str i = V.str j) = decide (i = j) := by simp
    rw [this]
    exact q.val (.bl _)
  · have h2 : fEq d e = some res := by
      cases d <;> cases e <;> first | exact h | exact absurd ⟨_, _, rfl, rfl⟩ c
    exact .inr (ok_eq Z H x y d e res Q hx hy h2 q)
theorem ok_neX : Ok2 K (rNeX K) fNeX := by
  intro Z H x y d e res Q hx hy h q
  by_cases c : ∃ i j, d = .str i ∧ e = .str j
  · obtain ⟨i, j, rfl, rfl⟩ := c
    cases h
    rw [hx.str, hy.str]
    refine .inl ⟨rfl, ?_⟩
    have : decide (V.str i = V.str j) = decide (i = j) := by simp
    rw [this]
    exact q.val (.bl _)
  · have h2 : fNe d e = some res := by
      cases d <;> cases e <;> first | exact h | exact absurd ⟨_, _, rfl, rfl⟩ c
    exact .inr (ok_ne Z H x y d e res Q hx hy h2 q)
theorem fEqX_bool (d e : PyData) (res : Res) (h : fEqX d e = some res) : ∃ k, res = .sh (.bool k) := by
  by_cases c : ∃ i j, d = .str i ∧ e = .str j
  · obtain ⟨i, j, rfl, rfl⟩ := c
    cases h
    exact ⟨_, rfl⟩
  · have h2 : fEq d e = some res := by
      cases d <;> cases e <;> first | exact h | exact absurd ⟨_, _, rfl, rfl⟩ c
    exact fEq_bool d e res h2
theorem fNeX_bool (d e : PyData) (res : Res) (h : fNeX d e = some res) : ∃ k, res = .sh (.bool k) := by
  by_cases c : ∃ i j, d = .str i ∧ e = .str j
  · obtain ⟨i, j, rfl, rfl⟩ := c
    cases h
    exact ⟨_, rfl⟩
  · have h2 : fNe d e = some res := by
      cases d <;> cases e <;> first | exact h | exact absurd ⟨_, _, rfl, rfl⟩ c
    exact fNe_bool d e res h2
def rInX (K : Kx) (b : Bool) : R2 := fun x y H Q => ∃ d ds e, (e = .list ds ∨ e = .tuple ds) ∧ Dp K H x d ∧ Dp K H y e ∧ shp d = true ∧ shp e = true ∧ Q (.bl (xor b (ds.any fun z => PyData.eqv z d))) H
theorem shp_items {e : PyData} {ds : List PyData} (h : e = .list ds ∨ e = .tuple ds) (s : shp e = true) : PyData.canLayAll0 ds = true := by
  have := SeqAt.canLay_of_shaped s
  rcases h with rfl | rfl <;> simpa [PyData.canLay0] using this
theorem op_inX (hu : X.A.units + 65 < cLine) : OpR X (compareOp .In) (rInX X.kx false) := by
  intro pins s σ H x y v u Q I rx ry h
  obtain ⟨d, ds, e, he, hd, hy, sd, se, q⟩ := h
  obtain ⟨as, r1⟩ := Dp.reads I d x v hd rx
  obtain ⟨bs, r2⟩ := Dp.reads I e y u hy ry
  have hc := shp_items he se
  rw [Bool.false_xor] at q
  rcases he with rfl | rfl
  · exact SeqAt.in_list_reads r2 r1 hc (SeqAt.canLay_of_shaped sd) (room_in_shaped sd hu) ⟨.bl _, H, I, rfl, q⟩
  · exact SeqAt.in_tuple_reads r2 r1 hc (SeqAt.canLay_of_shaped sd) (room_in_shaped sd hu) ⟨.bl _, H, I, rfl, q⟩
theorem op_notInX (hu : X.A.units + 65 < cLine) : OpR X (compareOp .NotIn) (rInX X.kx true) := by
  intro pins s σ H x y v u Q I rx ry h
  obtain ⟨d, ds, e, he, hd, hy, sd, se, q⟩ := h
  obtain ⟨as, r1⟩ := Dp.reads I d x v hd rx
  obtain ⟨bs, r2⟩ := Dp.reads I e y u hy ry
  have hc := shp_items he se
  rw [Bool.true_xor] at q
  rcases he with rfl | rfl
  · exact SeqAt.notIn_list_reads r2 r1 hc (SeqAt.canLay_of_shaped sd) (room_in_shaped sd hu) ⟨.bl _, H, I, rfl, q⟩
  · exact SeqAt.notIn_tuple_reads r2 r1 hc (SeqAt.canLay_of_shaped sd) (room_in_shaped sd hu) ⟨.bl _, H, I, rfl, q⟩
def seqD : PyData → Option (List PyData)
  | .list ds => some ds
  | .tuple ds => some ds
  | _ => none
theorem seqD_some {e : PyData} {ds : List PyData} (h : seqD e = some ds) : e = .list ds ∨ e = .tuple ds := by
  cases e <;> first | (cases h; done) | (cases h; exact .inl rfl) | (cases h; exact .inr rfl)
/-- one sign in a text -/
def oneSign (x : Str) : Option Nat := match x.cps.toList with
  | [c] => some c
  | _ => none
theorem oneSign_some {x : Str} {c : Nat} (h : oneSign x = some c) : x = ⟨#[c]⟩ := by
  obtain ⟨⟨l⟩⟩ := x
  unfold oneSign at h
  match l, h with
  | [c'], h => cases h; rfl
  | [], h => cases h
  | _ :: _ :: _, h => cases h
def signIn : PyData → PyData → Option Bool
  | .str x, .str z => (oneSign x).map fun c => decide (c ∈ z.cps.toList)
  | _, _ => none
def fInX (b : Bool) (d e : PyData) : Option Res := match signIn d e with
  | some k => some (.sh (.bool (xor b k)))
  | none => (match seqD e with
    | some ds => if (shp d && shp e) = true then some (.sh (.bool (xor b (ds.any fun z => PyData.eqv z d)))) else none
    | none => none)
abbrev rSgn (b : Bool) : R2 := fun x y H Q => ∃ (c : Nat) (z : Str), x = .str ⟨#[c]⟩ ∧ y = .str z ∧ Q (.bl (xor b (decide (c ∈ z.cps.toList)))) H
abbrev rInA (K : Kx) (b : Bool) : R2 := fun x y H Q => rSgn b x y H Q ∨ rInX K b x y H Q
theorem op_inA (hu : X.A.units + 65 < cLine) : OpR X (compareOp .In) (rInA X.kx false) :=
  OpR.or (r := rSgn false) (fun pins s σ H x y v u Q I rx ry ⟨c, z, e1, e2, q⟩ => op_in_sign pins s σ H x y v u Q I rx ry ⟨c, z, e1, e2, by rw [Bool.false_xor] at q; exact q⟩) (op_inX hu)
theorem op_notInA (hu : X.A.units + 65 < cLine) : OpR X (compareOp .NotIn) (rInA X.kx true) :=
  OpR.or (r := rSgn true) (fun pins s σ H x y v u Q I rx ry ⟨c, z, e1, e2, q⟩ => op_notIn_sign pins s σ H x y v u Q I rx ry ⟨c, z, e1, e2, by rw [Bool.true_xor] at q; exact q⟩) (op_notInX hu)
theorem signIn_some {d e : PyData} {k : Bool} (h : signIn d e = some k) : ∃ c z, d = .str ⟨#[c]⟩ ∧ e = .str z ∧ k = decide (c ∈ z.cps.toList) := by
  unfold signIn at h
  split at h
  · rename_i x z
    obtain ⟨c, e1, e2⟩ := Option.map_eq_some_iff.mp h
    rw [oneSign_some e1]
    exact ⟨c, z, rfl, rfl, e2.symm⟩
  · cases h
theorem ok_in {b : Bool} : Ok2 K (rInA K b) (fInX b) := by
  intro Z H x y d e res Q hx hy h q
  unfold fInX at h
  split at h
  · rename_i k hk
    cases h
    obtain ⟨c, z, rfl, rfl, rfl⟩ := signIn_some hk
    exact .inl ⟨c, z, hx.str, hy.str, q.val (.bl _)⟩
  · split at h
    · rename_i ds he
      split at h
      · rename_i hs
        cases h
        obtain ⟨s1, s2⟩ := Bool.and_eq_true_iff.mp hs
        exact .inr ⟨d, ds, e, seqD_some he, hx.dp s1, hy.dp s2, s1, s2, q.val (.bl _)⟩
      · cases h
    · cases h
theorem fInX_bool {b : Bool} (d e : PyData) (res : Res) (h : fInX b d e = some res) : ∃ k, res = .sh (.bool k) := by
  unfold fInX at h
  split at h
  · cases h
    exact ⟨_, rfl⟩
  · split at h
    · split at h
      · cases h
        exact ⟨_, rfl⟩
      · cases h
    · cases h
end
end
end Ev
set_option Elab.async false
set_option linter.all false
set_option autoImplicit false
set_option maxRecDepth 100000
namespace Ev
open PySem PySem.Spec L2
open PyProof.Rows hiding St
noncomputable section
open PySem.W (alike AlikeAll minD maxD readsAll_at reads_keeps min_list_data min_tuple_data max_list_data max_tuple_data)
section
variable {K : Kx} {W : WX} {al : Addr → Prop} {own own' : Own} {ρ ρ' : Env} {σ : St} {H H' : Hp} {X : Cx} {pos p : Pos}
/-- the items of a list, a tuple that is shown -/
theorem Vw.seq {Z : Addr → Prop} {v : V} {e : PyData} {ds : List PyData} (h : Vw K H Z v e) (he : e = .list ds ∨ e = .tuple ds) : ∃ a vs as, v = .ref a ∧ (SqL K H a vs ∨ SqT K H a vs) ∧ RpA K H vs ds as ∧ ∀ b ∈ as, Z b := by
  rcases he with rfl | rfl
  · obtain ⟨a, vs, as, h1, h2, h3⟩ := h.list
    exact ⟨a, vs, as, h1, .inl h2, h3⟩
  · obtain ⟨a, vs, as, h1, h2, h3⟩ := h.tuple
    exact ⟨a, vs, as, h1, .inr h2, h3⟩
def evIntK (f : Ev) (k : Int → Ev) : Ev := fun ρ => match f ρ with
  | .ok (.sh (.int i)) ρ' => k i ρ'
  | .ok _ _ => .stuck
  | .exc c ρ' => .exc c ρ'
  | .stuck => .stuck
/-- a < b < c and its like, over numbers -/
def evCh (g g' : Int → Int → Bool) (fa fb fc : Ev) : Ev := evIntK fa fun i => evIntK fb fun j => if g i j = true then evIntK fc fun k => evC (.bool (g' j k)) else evC (.bool false)
end
end
end Ev
set_option Elab.async false
set_option linter.all false
set_option autoImplicit false
set_option maxRecDepth 100000
namespace Ev
open PySem PySem.Spec L2
open PyProof.Rows hiding St
noncomputable section
section
variable {K : Kx} {W : WX} {al : Addr → Prop} {own own' : Own} {ρ ρ' : Env} {σ : St} {H H' : Hp} {X : Cx} {pos p : Pos}
def evMeth (isT : PyData → Bool) (f : List PyData → Option Res) (o : Opd) (os : List Opd) : Ev := fun ρ => match evO o ρ with
  | .ok a ρ1 => (match look ρ1 a with
    | some d => if isT d = true then evPm f (o :: os) ρ else .stuck
    | none => .stuck)
  | .exc c ρ' => .exc c ρ'
  | .stuck => .stuck
theorem Vw.of_slot {i : Nat} {s : Sl} {v : V} (h : SlOk K H al own i s v) (hn : ∀ a c, s ≠ .ex a c) : Vw K H (Zf al own) v s.d := by
  cases s with
  | sh d => exact .inl h
  | ow d => obtain ⟨a, _, o, _⟩ := h; exact .inr ⟨a, o⟩
  | io d => obtain ⟨a, _, o⟩ := h; exact .inr ⟨a, o⟩
  | lk d => obtain ⟨a, _, o⟩ := h; exact .inr ⟨a, o⟩
  | ex a c => exact (hn a c rfl).elim
def fNeg : PyData → Option Res
  | .int i => some (.sh (.int (-i)))
  | _ => none
mutual
def conV (K : PySem.W.Frag) : PyData → Value → Bool
  | .none, .none => true
  | .bool b, .bool c => b == c
  | .int i, .int j _ => decide (j = i)
  | .str x, .str y _ => decide (y = x)
  | .tuple ds, .ref a => (match K.lookup a with
    | some ⟨.type c, dd, .seq its _, _⟩ => decide (c = "tuple") && (dd.isNone && (decide (its.size ≤ sizeLine) && conVA K ds its.toList))
    | _ => false)
  | _, _ => false
def conVA (K : PySem.W.Frag) : List PyData → List Value → Bool
  | [], [] => true
  | d :: ds, v :: vs => conV K d v && conVA K ds vs
  | _, _ => false
end
def ConOk (K : PySem.W.Frag) (d : PyData) (u : Value) : Prop := ∃ v, RelV v u ∧ ∀ (P : Program) (w : World) (H : Hp), Rp ⟨K, P, w⟩ H v d []
mutual
theorem conV_ok {K : PySem.W.Frag} : ∀ (d : PyData) (u : Value), conV K d u = true → ConOk K d u
  | .none, u, h => by
    cases u <;> first | (simp [conV] at h; done) | exact ⟨.non, rfl, fun _ _ _ => .non⟩
  | .bool b, u, h => by
    cases u <;> first | (simp [conV] at h; done) | skip
    simp [conV] at h
    subst h
    exact ⟨.bl b, rfl, fun _ _ _ => .bl b⟩
  | .int i, u, h => by
    cases u <;> first | (simp [conV] at h; done) | skip
    simp [conV] at h
    subst h
    exact ⟨.int _, ⟨_, rfl⟩, fun _ _ _ => .int _⟩
  | .str i, u, h => by
    cases u <;> first | (simp [conV] at h; done) | skip
    simp [conV] at h
    subst h
    exact ⟨.str _, ⟨_, rfl⟩, fun _ _ _ => .str _⟩
  | .tuple ds, u, h => by
    cases u <;> first | (simp [conV] at h; done) | skip
    rename_i a
    simp only [conV] at h
    split at h
    · rename_i c dd its n sl e
      simp only [Bool.and_eq_true, decide_eq_true_eq] at h
      obtain ⟨h1, h0, h2, h3⟩ := h
      subst h1
      have hdd : dd = none := Option.isNone_iff_eq_none.mp h0
      obtain ⟨vs, r, g⟩ := conVA_ok ds its.toList h3
      exact ⟨.ref a, rfl, fun P w H => .tup (.inr ⟨_, its, n, e, rfl, rfl, h2, r⟩) (g P w H) fun _ => .inr ⟨_, e, hdd⟩⟩
    · cases h
  | .list ds, u, h => by cases u <;> simp [conV] at h
  | .dict ds, u, h => by cases u <;> simp [conV] at h
theorem conVA_ok {K : PySem.W.Frag} : ∀ (ds : List PyData) (us : List Value), conVA K ds us = true → ∃ vs, Vals vs us ∧ ∀ (P : Program) (w : World) (H : Hp), RpA ⟨K, P, w⟩ H vs ds []
  | [], us, h => by
    cases us with
    | nil => exact ⟨[], .nil, fun _ _ _ => .nil⟩
    | cons u us => simp [conVA] at h
  | d :: ds, us, h => by
    cases us with
    | nil => simp [conVA] at h
    | cons u us =>
      simp only [conVA, Bool.and_eq_true] at h
      obtain ⟨v, r, g⟩ := conV_ok d u h.1
      obtain ⟨vs, rs, gs⟩ := conVA_ok ds us h.2
      exact ⟨v :: vs, .cons r rs, fun P w H => .cons (g P w H) (gs P w H)⟩
end
def consB (l : List (Str × PyData)) (K : PySem.W.Frag) : Bool := l.all fun q => match PySem.W.nsIn K mainGlobals q.1 with
  | some (some u) => conV K q.2 u
  | _ => false
end
end
end Ev
set_option Elab.async false
set_option linter.all false
set_option autoImplicit false
set_option maxRecDepth 100000
namespace Ev
open PySem PySem.Spec L2
open PyProof.Rows hiding St
noncomputable section
mutual
theorem nk_inj : ∀ (d e : PyData) (k : NestedKey), nk d = some k → nk e = some k → d = e
  | .none, e, k, h1, h2 => by
    simp only [nk, Option.some.injEq] at h1
    subst h1
    cases e <;> simp_all [nk]
  | .int i, e, k, h1, h2 => by
    simp only [nk, Option.some.injEq] at h1
    subst h1
    cases e <;> simp_all [nk]
  | .str i, e, k, h1, h2 => by
    simp only [nk, Option.some.injEq] at h1
    subst h1
    cases e <;> simp_all [nk]
  | .tuple ds, e, k, h1, h2 => by
    simp only [nk, Option.map_eq_some_iff] at h1
    obtain ⟨ks, e1, rfl⟩ := h1
    cases e with
    | tuple es =>
      simp only [nk, Option.map_eq_some_iff, NestedKey.tup.injEq] at h2
      obtain ⟨ks', e2, rfl⟩ := h2
      rw [nks_inj ds es ks' e1 e2]
    | none => simp [nk] at h2
    | bool b => simp [nk] at h2
    | int i => simp [nk] at h2
    | str i => simp [nk] at h2
    | list i => simp [nk] at h2
    | dict i => simp [nk] at h2
  | .bool b, _, _, h1, _ => by simp [nk] at h1
  | .list b, _, _, h1, _ => by simp [nk] at h1
  | .dict b, _, _, h1, _ => by simp [nk] at h1
theorem nks_inj : ∀ (ds es : List PyData) (ks : List NestedKey), nks ds = some ks → nks es = some ks → ds = es
  | [], es, ks, h1, h2 => by
    simp only [nks, Option.some.injEq] at h1
    subst h1
    cases es with
    | nil => rfl
    | cons e es =>
      simp only [nks] at h2
      split at h2 <;> simp at h2
  | d :: ds, es, ks, h1, h2 => by
    simp only [nks] at h1
    split at h1
    · rename_i k ks' e1 e2
      simp only [Option.some.injEq] at h1
      subst h1
      cases es with
      | nil => simp [nks] at h2
      | cons e es =>
        simp only [nks] at h2
        split at h2
        · rename_i k2 ks2 e3 e4
          simp only [Option.some.injEq, List.cons.injEq] at h2
          obtain ⟨rfl, rfl⟩ := h2
          rw [nk_inj d e _ e1 e3, nks_inj ds es _ e2 e4]
        · cases h2
    · cases h1
end
theorem tk_nk {d : PyData} {k : NestedKey} (h : tk d = some k) : nk d = some k ∧ k.depth ≤ 8 ∧ ∃ ds, d = .tuple ds := by
  cases d with
  | tuple ds =>
    simp only [tk] at h
    split at h
    · rename_i ks e
      split at h
      · rename_i hd
        cases h
        exact ⟨by simp [nk, e], hd, ds, rfl⟩
      · cases h
    · cases h
  | none => simp [tk] at h
  | bool b => simp [tk] at h
  | int i => simp [tk] at h
  | str i => simp [tk] at h
  | list i => simp [tk] at h
  | dict i => simp [tk] at h
def fam : PyData → Option Bool
  | .int _ => some false
  | .str _ => some false
  | .tuple ds => if (tk (.tuple ds)).isSome = true then some true else none
  | _ => none
/-- a dict that holds ds may be asked for the key kd -/
def dOk (ds : List (PyData × PyData)) (kd : PyData) : Bool := (fam kd).isSome && (match ds with
  | [] => true
  | p :: _ => decide (fam p.1 = fam kd))
def kval (kvs : List (PyData × V × V)) (kd : PyData) : Option V := (kvs.find? fun p => cdec (p.1 = kd)).map (·.2.2)
def dval (ds : List (PyData × PyData)) (kd : PyData) : Option PyData := (ds.find? fun p => cdec (p.1 = kd)).map (·.2)
def dput (ds : List (PyData × PyData)) (kd d : PyData) : List (PyData × PyData) :=
  if (dval ds kd).isSome = true then ds.map fun p => if cdec (p.1 = kd) = true then (p.1, d) else p else ds ++ [(kd, d)]
theorem cdec_false {p : Prop} (h : ¬ p) : cdec p = false := by
  cases e : cdec p with
  | false => rfl
  | true => exact absurd (of_cdec e) h
theorem dval_cons {p : PyData × PyData} {ds : List (PyData × PyData)} {kd : PyData} : dval (p :: ds) kd = if cdec (p.1 = kd) = true then some p.2 else dval ds kd := by
  unfold dval
  rw [List.find?_cons]
  cases cdec (p.1 = kd) <;> rfl
theorem kval_cons {p : PyData × V × V} {ds : List (PyData × V × V)} {kd : PyData} : kval (p :: ds) kd = if cdec (p.1 = kd) = true then some p.2.2 else kval ds kd := by
  unfold kval
  rw [List.find?_cons]
  cases cdec (p.1 = kd) <;> rfl
section
variable {K : Kx} {W : WX} {al : Addr → Prop} {own own' : Own} {ρ ρ' : Env} {σ : St} {H H' : Hp} {X : Cx} {pos p : Pos} {pins : List (Addr × Obj)} {s : Shared}
theorem RpK.val {kvs : List (PyData × V × V)} {ds : List (PyData × PyData)} {as : List Addr} (r : RpK K H kvs ds as) (kd : PyData) :
    (∀ d, dval ds kd = some d → ∃ v bs, kval kvs kd = some v ∧ Rp K H v d bs ∧ ∀ b ∈ bs, b ∈ as) ∧ (dval ds kd = none → kval kvs kd = none) := by
  induction ds generalizing kvs as with
  | nil => cases r; exact ⟨fun d e => (nomatch e), fun _ => rfl⟩
  | cons p ds ih =>
    cases r with
    | @cons kd0 kv v kvs d ds as bs h0 h1 h2 =>
      rw [dval_cons, kval_cons]
      by_cases c : cdec (kd0 = kd) = true
      · rw [if_pos c, if_pos c]
        exact ⟨fun d' e => by cases e; exact ⟨v, as, rfl, h1, fun b hb => List.mem_append_left _ hb⟩, fun e => nomatch e⟩
      · rw [if_neg c, if_neg c]
        obtain ⟨i1, i2⟩ := ih h2
        exact ⟨fun d' e => let ⟨v, bs, q1, q2, q3⟩ := i1 d' e; ⟨v, bs, q1, q2, fun b hb => List.mem_append_right _ (q3 b hb)⟩, i2⟩
theorem RpK.keys {kvs : List (PyData × V × V)} {ds : List (PyData × PyData)} {as : List Addr} (r : RpK K H kvs ds as) : ∀ p ∈ kvs, Rp K H p.2.1 p.1 [] := by
  induction ds generalizing kvs as with
  | nil => cases r; exact fun _ z => nomatch z
  | cons p ds ih =>
    cases r with
    | cons h0 h1 h2 =>
      intro q hq
      rcases List.mem_cons.mp hq with rfl | hq
      · exact h0
      · exact ih h2 q hq
theorem RpK.isSome {kvs : List (PyData × V × V)} {ds : List (PyData × PyData)} {as : List Addr} (r : RpK K H kvs ds as) (kd : PyData) : (kval kvs kd).isSome = (dval ds kd).isSome := by
  obtain ⟨h1, h2⟩ := r.val kd
  cases e : dval ds kd with
  | none => rw [h2 e]; rfl
  | some d => obtain ⟨v, bs, q, _⟩ := h1 d e; rw [q]; rfl
mutual
theorem rp_nested (I : Inv X pins σ H s) : ∀ (d : PyData) (k : NestedKey) (v : V) (u : Value) (as : List Addr), nk d = some k → Rp X.kx H v d as → RelV v u → NestedIs s.heap k u
  | .none, k, v, u, as, h, r, rv => by
    simp only [nk, Option.some.injEq] at h
    subst h
    cases r
    cases (show u = Value.none from rv)
    exact .none
  | .int i, k, v, u, as, h, r, rv => by
    simp only [nk, Option.some.injEq] at h
    subst h
    cases r
    obtain ⟨t, rfl⟩ := (show ∃ t, u = Value.int i t from rv)
    exact .int i t
  | .str i, k, v, u, as, h, r, rv => by
    simp only [nk, Option.some.injEq] at h
    subst h
    cases r
    obtain ⟨t, rfl⟩ := (show ∃ t, u = Value.str i t from rv)
    exact .text i t
  | .tuple ds, k, v, u, as, h, r, rv => by
    simp only [nk, Option.map_eq_some_iff] at h
    obtain ⟨ks, e, rfl⟩ := h
    cases r with
    | tup h1 h2 =>
      cases (show u = Value.ref _ from rv)
      obtain ⟨its, rel, ⟨o, ho, hc, n, hd⟩, _⟩ := I.tuple h1
      exact .tup ho hc hd (by simpa using rpA_nested I ds ks _ its _ e h2 rel)
  | .bool b, _, _, _, _, h, _, _ => by simp [nk] at h
  | .list b, _, _, _, _, h, _, _ => by simp [nk] at h
  | .dict b, _, _, _, _, h, _, _ => by simp [nk] at h
theorem rpA_nested (I : Inv X pins σ H s) : ∀ (ds : List PyData) (ks : List NestedKey) (vs : List V) (us : List Value) (as : List Addr), nks ds = some ks → RpA X.kx H vs ds as → Vals vs us → NestedAll s.heap ks us
  | [], ks, vs, us, as, h, r, rv => by
    simp only [nks, Option.some.injEq] at h
    subst h
    cases r
    cases rv
    exact .nil
  | d :: ds, ks, vs, us, as, h, r, rv => by
    simp only [nks] at h
    split at h
    · rename_i k ks' e1 e2
      simp only [Option.some.injEq] at h
      subst h
      cases r with
      | cons r1 r2 =>
        cases rv with
        | cons v1 v2 => exact .cons (rp_nested I d k _ _ _ e1 r1 v1) (rpA_nested I ds ks' _ _ _ e2 r2 v2)
    · cases h
end
abbrev NV : List (PyData × Addr × V) → List (NestedKey × Addr × Value) → Prop := Paired fun p q => tk p.1 = some q.1 ∧ p.2.1 = q.2.1 ∧ RelV p.2.2 q.2.2
theorem NV.mem : ∀ {kvs : List (PyData × Addr × V)} {xs : List (NestedKey × Addr × Value)}, NV kvs xs → ∀ x ∈ xs, ∃ p ∈ kvs, tk p.1 = some x.1 ∧ p.2.1 = x.2.1 := by
  intro kvs xs r
  induction r with
  | nil => exact fun _ z => nomatch z
  | @cons p q ps qs h t ih =>
    intro x hx
    rcases List.mem_cons.mp hx with rfl | hx
    · exact ⟨p, by simp, h.1, h.2.1⟩
    · obtain ⟨p', m, e⟩ := ih x hx
      exact ⟨p', by simp [m], e⟩
theorem NV.val {kvs : List (PyData × Addr × V)} {xs : List (NestedKey × Addr × Value)} (r : NV kvs xs) {kd : PyData} {k : NestedKey} (hk : tk kd = some k) : RelO (kval (kvs.map fun p => (p.1, .ref p.2.1, p.2.2)) kd) ((atKey xs k).map (·.2)) := by
  induction r with
  | nil => exact trivial
  | @cons p q ps qs h t ih =>
    obtain ⟨h1, _, h2⟩ := h
    rw [List.map_cons, kval_cons]
    by_cases e : q.1 = k
    · have c : p.1 = kd := nk_inj _ _ q.1 (tk_nk h1).1 (by rw [e]; exact (tk_nk hk).1)
      rw [if_pos (cdec_of c)]
      have b : atKey (q :: qs) k = some q.2 := by simp [atKey, List.find?_cons, e]
      rw [b]
      exact h2
    · have c : ¬ p.1 = kd := fun z => e (by rw [z, hk] at h1; exact (Option.some.inj h1).symm)
      have b : atKey (q :: qs) k = atKey qs k := by simp [atKey, List.find?_cons, e]
      rw [if_neg (by rw [cdec_false c]; exact Bool.false_ne_true), b]
      exact ih
/-- the dict at a, asked for the tuple u, has r -/
def NGet (X : Cx) (s : Shared) (a : Addr) (u : Value) (r : Option V) : Prop := ∃ b k xs, u = .ref b ∧ (nestedKind X.prog X.w).is s.heap k b ∧ (a == sysModules) = false ∧ s.heap.DictOfH (nestedKind X.prog X.w) a xs ∧ RelO r ((atKey xs k).map (·.2))
theorem NGet.typeIs {a : Addr} {u : Value} {r : Option V} (g : NGet X s a u r) : s.TypeIs (.ref a) "dict" := by
  obtain ⟨b, k, xs, _, _, _, dd, _⟩ := g
  exact dd.typeIs
end
end
end Ev
set_option Elab.async false
set_option linter.all false
set_option autoImplicit false
set_option maxRecDepth 100000
namespace Ev
open PySem PySem.Spec L2
open PyProof.Rows hiding St
noncomputable section
def kput (kvs : List (PyData × V × V)) (kd : PyData) (kv v : V) : List (PyData × V × V) :=
  if (kval kvs kd).isSome = true then kvs.map fun p => if cdec (p.1 = kd) = true then (p.1, p.2.1, v) else p else kvs ++ [(kd, kv, v)]
def nput (kvs : List (PyData × Addr × V)) (kd : PyData) (b : Addr) (v : V) : List (PyData × Addr × V) :=
  if (kval (kvs.map fun p => (p.1, .ref p.2.1, p.2.2)) kd).isSome = true then kvs.map fun p => if cdec (p.1 = kd) = true then (p.1, p.2.1, v) else p else kvs ++ [(kd, b, v)]
section
variable {K : Kx} {W : WX} {al : Addr → Prop} {own own' : Own} {ρ ρ' : Env} {σ : St} {H H' : Hp} {X : Cx} {pos p : Pos} {pins : List (Addr × Obj)} {s : Shared} {D : Ends}
mutual
theorem nk_flat : ∀ (d : PyData) (k : NestedKey), nk d = some k → flat d = true
  | .none, _, _ => rfl
  | .int _, _, _ => rfl
  | .str _, _, _ => rfl
  | .tuple ds, k, h => by
    simp only [nk, Option.map_eq_some_iff] at h
    obtain ⟨ks, e, _⟩ := h
    simpa [flat] using nks_flat ds ks e
  | .bool _, _, h => by simp [nk] at h
  | .list _, _, h => by simp [nk] at h
  | .dict _, _, h => by simp [nk] at h
theorem nks_flat : ∀ (ds : List PyData) (ks : List NestedKey), nks ds = some ks → flatA ds = true
  | [], _, _ => rfl
  | d :: ds, ks, h => by
    simp only [nks] at h
    split at h
    · rename_i k ks' e1 e2
      simp [flatA, nk_flat d k e1, nks_flat ds ks' e2]
    · cases h
end
theorem RpK.append {kvs ws : List (PyData × V × V)} {ds es : List (PyData × PyData)} {as bs : List Addr} (h : RpK K H kvs ds as) (h' : RpK K H ws es bs) : RpK K H (kvs ++ ws) (ds ++ es) (as ++ bs) := by
  induction ds generalizing kvs as with
  | nil => cases h; exact h'
  | cons d ds ih => cases h with | cons h0 h1 h2 => rw [List.append_assoc]; exact .cons h0 h1 (ih h2)
theorem RpK.put {Z : Addr → Prop} {kvs : List (PyData × V × V)} {ds : List (PyData × PyData)} {as bs : List Addr} (r : RpK K H kvs ds as) (z : ∀ b ∈ as, Z b) {kd d : PyData} {kv v : V} (rk : Rp K H kv kd []) (rv : Rp K H v d bs) (zv : ∀ b ∈ bs, Z b) :
    ∃ cs, RpK K H (kput kvs kd kv v) (dput ds kd d) cs ∧ ∀ b ∈ cs, Z b := by
  unfold kput dput
  rw [r.isSome]
  split
  · rename_i c
    clear c
    induction ds generalizing kvs as with
    | nil => cases r; exact ⟨[], .nil, fun _ z => nomatch z⟩
    | cons p ds ih =>
      cases r with
      | @cons kd0 kv0 v0 kvs d0 ds as0 bs0 h0 h1 h2 =>
        obtain ⟨cs, q1, q2⟩ := ih h2 fun b hb => z b (List.mem_append_right _ hb)
        rw [List.map_cons, List.map_cons]
        by_cases c : cdec (kd0 = kd) = true
        · simp only [if_pos c]
          exact ⟨bs ++ cs, .cons h0 rv q1, fun b hb => (List.mem_append.mp hb).elim (zv b) (q2 b)⟩
        · simp only [if_neg c]
          exact ⟨as0 ++ cs, .cons h0 h1 q1, fun b hb => (List.mem_append.mp hb).elim (fun hb => z b (List.mem_append_left _ hb)) (q2 b)⟩
  · exact ⟨_, r.append (.cons rk rv .nil), fun b hb => (List.mem_append.mp hb).elim (z b) fun hb => zv b (by simpa using hb)⟩
theorem NV.put {kvs : List (PyData × Addr × V)} {xs : List (NestedKey × Addr × Value)} (r : NV kvs xs) {kd : PyData} {k : NestedKey} (hk : tk kd = some k) {b : Addr} {v : V} {u : Value} (rv : RelV v u) : NV (nput kvs kd b v) (storedH xs k b u) := by
  have e : (kval (kvs.map fun p => (p.1, .ref p.2.1, p.2.2)) kd).isSome = (atKey xs k).isSome := by
    rw [(r.val hk).isSome_eq, Option.isSome_map]
  unfold nput storedH
  rw [e]
  split
  · rename_i c0
    clear c0 e
    induction r with
    | nil => exact .nil
    | @cons p q ps qs h t ih =>
      rw [List.map_cons, List.map_cons]
      refine .cons ?_ ih
      obtain ⟨h1, h2, h3⟩ := h
      unfold putAt
      by_cases c : q.1 = k
      · rw [if_pos c, if_pos (cdec_of (nk_inj _ _ q.1 (tk_nk h1).1 (by rw [c]; exact (tk_nk hk).1)))]
        exact ⟨h1, h2, rv⟩
      · rw [if_neg c, if_neg (by rw [cdec_false (fun z => c (by rw [z, hk] at h1; exact (Option.some.inj h1).symm))]; exact Bool.false_ne_true)]
        exact ⟨h1, h2, h3⟩
  · exact Paired.snoc r ⟨hk, rfl, rv⟩
theorem PSet.or {t t' : TSet} (h : PSet X t) (h' : PSet X t') : PSet X fun x y v H Q => t x y v H Q ∨ t' x y v H Q := by
  intro pins s σ H o i v ov iv u Q I ro ri rv q
  rcases q with q | q
  · exact h pins s σ H o i v ov iv u Q I ro ri rv q
  · exact h' pins s σ H o i v ov iv u Q I ro ri rv q
theorem RpK.length {kvs : List (PyData × V × V)} {ds : List (PyData × PyData)} {as : List Addr} (h : RpK K H kvs ds as) : kvs.length = ds.length := by
  induction ds generalizing kvs as with
  | nil => cases h; rfl
  | cons d ds ih => cases h with | cons h0 h1 h2 => simp [ih h2]
end
end
end Ev
set_option Elab.async false
set_option linter.all false
set_option autoImplicit false
set_option maxRecDepth 100000
namespace Ev
open PySem PySem.Spec L2
open PyProof.Rows hiding St
noncomputable section
section
variable {K : Kx} {W : WX} {al : Addr → Prop} {own own' : Own} {ρ ρ' : Env} {σ : St} {H H' : Hp} {X : Cx} {pos p : Pos} {pins : List (Addr × Obj)} {s : Shared} {D : Ends}
def fIxX (d e : PyData) : Option Res := match d with
  | .dict ds => if dOk ds e = true then (dval ds e).map .sh else none
  | _ => fIx d e
def pStrI : List PyData → Option Res
  | [.int i] => if cdec (i.natAbs.log2 < 1920) = true then some (.sh (.str (toString i))) else none
  | _ => none
theorem ok_strI : PmOk K (fun xs H Q => ∃ i, xs = [.int i] ∧ i.natAbs.log2 < 1920 ∧ Q (.str (toString i)) H) pStrI := by
  intro Z H vs ds res Q hv h q
  unfold pStrI at h
  split at h
  · split at h
    · rename_i i c
      cases h
      obtain ⟨x, rfl, hx⟩ := hv.one
      exact ⟨i, by rw [hx.int], of_cdec c, q.val (.str _)⟩
    · cases h
  · cases h
end
end
end Ev
set_option Elab.async false
set_option linter.all false
set_option autoImplicit false
set_option maxRecDepth 100000
namespace Ev
open PySem PySem.Spec L2
open PyProof.Rows hiding St
noncomputable section
def permL {α : Type} : List Nat → List α → List α
  | [], _ => []
  | i :: π, xs => match xs[i]? with
    | some x => x :: permL π xs
    | none => permL π xs
section
variable {K : Kx} {W : WX} {al al' : Addr → Prop} {own own' own1 : Own} {ρ ρ' ρ1 ρ2 : Env} {σ σ1 σ' : St} {H H' H1 : Hp} {X : Cx} {pos p : Pos} {D : Ends} {x : Str} {e : Expr} {es : List Expr} {os os2 : List Opd} {lv k : Nat} {ps : List Str} {F : FnV} {kws : List Keyword}
def KnP (P : Program) (w : World) (K : PySem.W.Frag) (mg : Str → Option Value) (base : Heap) (lv : Nat) (x : Str) (ps : List Str) (k : Nat) (F : FnV) (names : List Str) (π : List Nat) : Prop :=
  ∃ (f : Addr) (fd : FuncData), FnG P w K mg base (L2.CX P w) lv f fd ps (spV ⟨K, P, w⟩ ps.length k F) ∧ mg x = some (.ref f) ∧ PySem.W.keepIn K (.ref f) = true ∧
    ∀ ws : List Value, ws.length = ps.length → bindArgs fd ⟨[], names.zip ws⟩ = pure (ps.zip (permL π ws))
theorem KnP.mono {P : Program} {w : World} {K : PySem.W.Frag} {mg : Str → Option Value} {base : Heap} {lv lv' : Nat} {x : Str} {ps : List Str} {k : Nat} {F : FnV} {names : List Str} {π : List Nat} (h : KnP P w K mg base lv x ps k F names π) (l : lv ≤ lv') : KnP P w K mg base lv' x ps k F names π := by
  obtain ⟨f, fd, h1, h2⟩ := h
  exact ⟨f, fd, h1.mono l, h2⟩
end
end
end Ev
set_option Elab.async false
set_option linter.all false
set_option autoImplicit false
set_option maxRecDepth 100000
namespace Ev
open PySem PySem.Spec L2
open PyProof.Rows hiding St
noncomputable section
section
variable {K : Kx} {X : Cx} {H : Hp}
end
end
end Ev
set_option linter.all false
set_option autoImplicit false
set_option maxRecDepth 100000
namespace Ev
open PySem PySem.Spec L2
open PyProof.Rows hiding St
noncomputable section
/-- the fields FT names are plain fields of their classes -/
def OF (K : PySem.W.Frag) (FT : Str → Str → Bool) : Prop := ∀ C f, FT C f = true → Cls K (He.ga K C) ∧ NoAttr K (He.ga K C) f ∧ f ≠ knownN
section
variable {K : Kx} {W : WX} {al al' : Addr → Prop} {own own' own1 : Own} {ρ ρ' ρ1 ρ2 : Env} {σ σ1 σ' : St} {H H' H1 : Hp} {X : Cx} {pos p : Pos} {D : Ends} {x : Str} {e : Expr} {es : List Expr} {os os2 : List Opd} {lv k : Nat} {ps : List Str} {F : FnV} {FT : Str → Str → Bool}
theorem Vw.ins {Z : Addr → Prop} {v : V} {C : Str} {ds : List (PyData × PyData)} (h : Vw K H Z v (.dict ((.none, .str C) :: ds))) : ∃ a dx fs as, v = .ref a ∧ H a = some (.ins (He.ga K.fr C) dx fs) ∧ RpK K H (fs.map fun p => (.str p.1, .str p.1, hidV p)) ds as ∧ ∀ b ∈ as, Z b := by
  have go : ∀ {a : Addr} {o : HO} {kvs : List (PyData × V × V)} {as : List Addr}, DK K a o kvs → RpK K H kvs ((.none, .str C) :: ds) as → InsD H a o → (∀ b ∈ as, Z b) → ∃ dx fs as, H a = some (.ins (He.ga K.fr C) dx fs) ∧ RpK K H (fs.map fun p => (.str p.1, .str p.1, hidV p)) ds as ∧ ∀ b ∈ as, Z b := by
    intro a o kvs as h0 h2 hi z
    cases h0 with
    | i c dx fs =>
      cases h2 with
      | cons g0 g1 g2 =>
        cases g1
        exact ⟨dx, fs, _, hi _ _ _ rfl, g2, fun b hb => z b (by simp [hb])⟩
    | e c => cases h2
    | ef c dx => cases h2
    | x fs => cases h2
    | k kvs =>
      cases kvs with
      | nil => cases h2
      | cons p kvs =>
        obtain ⟨k, v⟩ := p
        cases k <;> cases h2
    | n kvs ne tks =>
      cases kvs with
      | nil => exact (ne rfl).elim
      | cons p kvs =>
        obtain ⟨k, a, v⟩ := p
        have := tks _ (List.mem_cons_self)
        cases h2
        simp [tk] at this
  rcases h with ⟨as, r, z⟩ | ⟨a, e, o⟩
  · cases r with
    | dic h1 h0 h2 h3 =>
      obtain ⟨dx, fs, as', q1, q2, q3⟩ := go h0 h2 h3 fun b hb => z b (by simp [hb])
      exact ⟨_, dx, fs, as', rfl, q1, q2, q3⟩
  · rcases o with ⟨vs, ds', as, e1, h2, h3, h4⟩ | ⟨o, vs, ds', as, e1, h2, h0, h3, h4⟩
    · cases e1
    · cases e1
      obtain ⟨dx, fs, as', q1, q2, q3⟩ := go h0 h3 (fun _ _ _ _ => h2) h4
      exact ⟨a, dx, fs, as', e, q1, q2, q3⟩
end
end
end Ev
set_option linter.all false
set_option autoImplicit false
set_option maxRecDepth 100000
namespace Ev
open PySem PySem.Spec L2
open PyProof.Rows hiding St
noncomputable section
/-- the method m of the class C: its first parameter is the instance -/
def KnM (P : Program) (w : World) (K : PySem.W.Frag) (mg : Str → Option Value) (base : Heap) (lv : Nat) (C m : Str) (ps : List Str) (k : Nat) (F : FnV) : Prop :=
  ∃ (f : Addr) (fd : FuncData), FnG P w K mg base (L2.CX P w) lv f fd ps (spV ⟨K, P, w⟩ ps.length k F) ∧ Meth K (He.ga K C) m f ∧ Cls K (He.ga K C) ∧
    ∀ us : List Value, us.length = ps.length → bindArgs fd ⟨us, []⟩ = pure (ps.zip us)
theorem KnM.mono {P : Program} {w : World} {K : PySem.W.Frag} {mg : Str → Option Value} {base : Heap} {lv lv' : Nat} {C m : Str} {ps : List Str} {k : Nat} {F : FnV} (h : KnM P w K mg base lv C m ps k F) (l : lv ≤ lv') : KnM P w K mg base lv' C m ps k F := by
  obtain ⟨f, fd, h1, h2⟩ := h
  exact ⟨f, fd, h1.mono l, h2⟩
/-- the class C is made with __init__ -/
def KnI (P : Program) (w : World) (K : PySem.W.Frag) (mg : Str → Option Value) (base : Heap) (lv : Nat) (C : Str) (ps : List Str) (k : Nat) (F : FnV) : Prop :=
  ∃ (f : Addr) (fd : FuncData), FnG P w K mg base (L2.CX P w) lv f fd ps (spV ⟨K, P, w⟩ ps.length k F) ∧ Mk K (He.ga K C) f ∧ mg C = some (.ref (He.ga K C)) ∧
    ∀ us : List Value, us.length = ps.length → bindArgs fd ⟨us, []⟩ = pure (ps.zip us)
theorem KnI.mono {P : Program} {w : World} {K : PySem.W.Frag} {mg : Str → Option Value} {base : Heap} {lv lv' : Nat} {C : Str} {ps : List Str} {k : Nat} {F : FnV} (h : KnI P w K mg base lv C ps k F) (l : lv ≤ lv') : KnI P w K mg base lv' C ps k F := by
  obtain ⟨f, fd, h1, h2⟩ := h
  exact ⟨f, fd, h1.mono l, h2⟩
section
variable {K : Kx} {W : WX} {al al' : Addr → Prop} {own own' own1 : Own} {ρ ρ' ρ1 ρ2 : Env} {σ σ1 σ' : St} {H H' H1 : Hp} {X : Cx} {pos p apos : Pos} {D : Ends} {C m : Str} {e o : Expr} {es : List Expr} {os os2 : List Opd} {oo : Opd} {lv k : Nat} {ps : List Str} {F : FnV}
end
end
end Ev
set_option Elab.async false
set_option linter.all false
set_option autoImplicit false
set_option maxRecDepth 100000
namespace Ev
open PySem PySem.Spec L2
open PyProof.Rows hiding St
noncomputable section
section
variable {K : Kx} {W : WX} {al al' : Addr → Prop} {own own' own1 : Own} {ρ ρ' ρ1 ρ2 : Env} {σ σ1 σ' : St} {H H' H1 : Hp} {X : Cx} {pos p apos : Pos} {D : Ends} {C m x : Str} {e o : Expr} {es : List Expr} {os os2 : List Opd} {oo oa ob : Opd} {lv k : Nat} {ps : List Str} {F : FnV} {a b : Expr}
end
end
end Ev
set_option Elab.async false
set_option linter.all false
set_option autoImplicit false
set_option maxRecDepth 100000
namespace Ev
open PySem PySem.Spec L2
open PyProof.Rows hiding St
section
variable {prog : Program} {w : World} {A : Around} {R : Result → Shared → Prop} {It : Addr} {fps wrs : List Addr} {G : Array GenState → Array GenState → Prop} {n : Nat} {P : Nat → Value → Prop} {Stt : Nat → Shared → Prop}
end
section
variable {prog : Program} {w : World} {A : Around} {E : Value → Shared → Prop} {s : Shared}
end
noncomputable section
section
variable {K : Kx} {W : WX} {H : Hp} {X : Cx} {a : Expr} {oa : Opd} {p p2 pos pos2 : Pos}
end
end
end Ev
set_option Elab.async false
set_option linter.all false
set_option autoImplicit false
set_option maxRecDepth 100000
namespace Ev
open PySem PySem.Spec L2
open PyProof.Rows hiding St
noncomputable section
section
variable {K : Kx} {W : WX} {al al' : Addr → Prop} {own own' own1 : Own} {ρ ρ' ρ1 ρ2 : Env} {σ σ1 σ' : St} {H H' H1 : Hp} {X : Cx} {pos p apos : Pos} {D : Ends} {C m x : Str} {e o : Expr} {es : List Expr} {os os2 : List Opd} {oo oa ob : Opd} {lv k : Nat} {ps : List Str} {F : FnV} {a b : Expr}
end
end
end Ev
set_option Elab.async false
set_option linter.all false
set_option autoImplicit false
set_option maxRecDepth 100000
namespace Ev
open PySem PySem.Spec L2
open PyProof.Rows hiding St
open StX (tStar pa_star)
noncomputable section
section
variable {K : Kx} {W : WX} {al al' : Addr → Prop} {own own' own1 : Own} {ρ ρ' ρ1 ρ2 : Env} {σ σ1 σ' : St} {H H' H1 : Hp} {X : Cx} {pos p apos : Pos} {D : Ends} {C m x : Str} {e o : Expr} {es : List Expr} {os os2 : List Opd} {oo oa ob : Opd} {lv k : Nat} {ps : List Str} {F : FnV} {a b : Expr}
theorem ArgsOk.split : ∀ {as : List Arg} {a : Arg} {vs : List V}, ArgsOk K H al own σ (as ++ [a]) vs → ∃ us v, vs = us ++ [v] ∧ ArgsOk K H al own σ as us ∧ ArgOk K H al own σ a v
  | [], a, [], h => h.elim
  | [], a, [v], h => ⟨[], v, rfl, trivial, h.1⟩
  | [], a, v :: w :: vs, h => h.2.elim
  | b :: as, a, [], h => h.elim
  | b :: as, a, v :: vs, h => by
    obtain ⟨us, v2, rfl, h1, h2⟩ := ArgsOk.split (as := as) h.2
    exact ⟨v :: us, v2, rfl, ⟨h.1, h1⟩, h2⟩
theorem ArgsOk.append : ∀ {as bs : List Arg} {vs ws : List V}, ArgsOk K H al own σ as vs → ArgsOk K H al own σ bs ws → ArgsOk K H al own σ (as ++ bs) (vs ++ ws)
  | [], _, [], _, _, h => h
  | [], _, _ :: _, _, h, _ => h.elim
  | _ :: _, _, [], _, h, _ => h.elim
  | a :: as, bs, v :: vs, ws, h, h' => ⟨h.1, ArgsOk.append h.2 h'⟩
end
end
end Ev
set_option Elab.async false
set_option linter.all false
set_option autoImplicit false
set_option maxRecDepth 100000
namespace Ev
open PySem PySem.Spec L2
open PyProof.Rows hiding St
section
variable {prog : Program} {w : World} {A : Around} {s : Shared} {mg mb : Str → Option Value} {f t c' : Addr} {params : Arguments} {scope : Scope} {pm ctv : Value} {x : Str} {p1 p2 p3 p4 p5 : Pos} {kk : Nat} {us : List Value} {ns : List Int}
/-- what the lambda's scope says of its two names -/
structure KeyScope (scope : Scope) (x : Str) : Prop where
  kind : scope.kind = .function
  co : scope.isCoroutine = false
  gen : scope.isGenerator = false
  nocell : ∀ y ∈ scope.names, y.2 ≠ .cell
  nofree : ∀ y ∈ scope.names, y.2 ≠ .free
  loc : scope.names.lookup x = some .local
  glob : scope.names.lookup ("sum" : Str) = some .globalImplicit
  nd : (x == ("__debug__" : Str)) = false
end
end Ev
set_option Elab.async false
set_option linter.all false
set_option autoImplicit false
set_option maxRecDepth 100000
namespace Ev
open PySem PySem.Spec L2
open PyProof.Rows hiding St
open LamX (TabB among_app)
section
variable {X : Cx} {pins : List (Addr × Obj)} {σ : L2.St} {H : Hp} {s : Shared}
end
end Ev
set_option Elab.async false
set_option linter.all false
set_option autoImplicit false
set_option maxRecDepth 100000
namespace Ev
open PySem PySem.Spec L2
open PyProof.Rows hiding St
open LamX (TabB)
noncomputable section
section
variable {X : Cx} {pins : List (Addr × Obj)} {σ : L2.St} {H : Hp} {s : Shared} {K : Kx} {W : WX}
end
end
end Ev
set_option Elab.async false
set_option linter.all false
set_option autoImplicit false
set_option maxRecDepth 100000
namespace Ev
open PySem PySem.Spec L2
open PyProof.Rows hiding St
open LamX (TabB)
noncomputable section
section
variable {K : Kx} {W : WX} {al al' : Addr → Prop} {own own' own1 : Own} {ρ ρ' ρ1 ρ2 : Env} {σ σ1 σ' : St} {H H' H1 : Hp} {X : Cx} {pos p apos : Pos} {D : Ends}
/-- the heap grows by new objects, the table by code objects -/
def GrowT (H H' : Hp) : Prop := (∀ b o, H b = some o → NT o → H' b = some o) ∧ ∀ b, H' b = none → H b = none
theorem GrowT.rp (g : GrowT H H') {v : V} {d : PyData} {as : List Addr} (r : Rp K H v d as) : Rp K H' v d as := Rp.keep (W := fun _ => False) (fun b o e _ n => g.1 b o e n) (fun _ z => z.elim) d v as r fun _ _ z => z
theorem GrowT.rpA (g : GrowT H H') {v : List V} {d : List PyData} {as : List Addr} (r : RpA K H v d as) : RpA K H' v d as := RpA.keep (W := fun _ => False) (fun b o e _ n => g.1 b o e n) (fun _ z => z.elim) d v as r fun _ _ z => z
theorem GrowT.rpK (g : GrowT H H') {v : List (PyData × V × V)} {d : List (PyData × PyData)} {as : List Addr} (r : RpK K H v d as) : RpK K H' v d as := RpK.keep (W := fun _ => False) (fun b o e _ n => g.1 b o e n) (fun _ z => z.elim) d v as r fun _ _ z => z
theorem GrowT.owV (g : GrowT H H') {Z : Addr → Prop} {v : V} {d : PyData} {a : Addr} (h : OwV K H Z v d a) : OwV K H' Z v d a := by
  obtain ⟨e, ⟨vs, ds, as, h1, h2, h3, h4⟩ | ⟨o, vs, ds, as, h1, h2, h0, h3, h4⟩⟩ := h
  · exact ⟨e, .inl ⟨vs, ds, as, h1, g.1 _ _ h2 (trivial), g.rpA h3, h4⟩⟩
  · exact ⟨e, .inr ⟨o, vs, ds, as, h1, g.1 _ _ h2 h0.nt, h0, g.rpK h3, h4⟩⟩
theorem GrowT.slOk (g : GrowT H H') {i : Nat} {s : Sl} {v : V} (h : SlOk K H al own i s v) : SlOk K H' al own i s v := by
  cases s with
  | sh d => obtain ⟨as, r, z⟩ := h; exact ⟨as, g.rp r, z⟩
  | ow d => obtain ⟨a, e, r, z⟩ := h; exact ⟨a, e, g.owV r, z⟩
  | io d => obtain ⟨a, e, r⟩ := h; exact ⟨a, e, g.owV r⟩
  | lk d => obtain ⟨a, e, r⟩ := h; exact ⟨a, e, g.owV r⟩
  | ex a c => exact h
theorem GrowT.stp (g : GrowT H H') : Stp own ρ H own ρ H' := ⟨fun b o e _ n => g.1 b o e n, g.2, fun i _ e => .inl ⟨i, e⟩, fun _ e => .inl e, fun _ _ e => ⟨e, rfl⟩, fun _ _ e => ⟨⟨_, e⟩, rfl⟩, rfl⟩
end
end
end Ev
set_option Elab.async false
set_option linter.all false
set_option autoImplicit false
set_option maxRecDepth 100000
namespace Ev
open PySem PySem.Spec L2
open PyProof.Rows hiding St
noncomputable section
section
variable {prog : Program} {w : World} {A : Around} {E : Value → Shared → Prop} {s : Shared}
end
section
variable {K : Kx} {W : WX} {σ : St} {H : Hp} {X : Cx} {pos apos : Pos} {e o : Expr} {oo : Opd}
theorem RpA.reverse {vs : List V} {ds : List PyData} {as : List Addr} {Z : Addr → Prop} (r : RpA K H vs ds as) (z : ∀ b ∈ as, Z b) : ∃ bs, RpA K H vs.reverse ds.reverse bs ∧ ∀ b ∈ bs, Z b := by
  have hl := r.length
  refine r.sub z (by rw [List.length_reverse, List.length_reverse, hl]) fun i v d e1 e2 => ?_
  rw [List.getElem?_reverse (by have := (List.getElem?_eq_some_iff.mp e1).1; simpa using this)] at e1
  rw [List.getElem?_reverse (by have := (List.getElem?_eq_some_iff.mp e2).1; simpa using this)] at e2
  exact ⟨_, e1, by rw [hl]; exact e2⟩
end
end
end Ev
set_option Elab.async false
set_option linter.all false
set_option autoImplicit false
set_option maxRecDepth 100000
namespace Ev
open PySem PySem.Spec L2
open PyProof.Rows hiding St
noncomputable section
section
variable {K : Kx} {W : WX} {al al' : Addr → Prop} {own own' own1 own0 : Own} {ρ ρ' ρ1 ρ0 : Env} {σ σ1 σ' : St} {H H' H1 H0 : Hp} {X : Cx} {pos : Pos} {vs : List Nat} {D : Addr}
theorem Stp.rpK (s : Stp own ρ H own' ρ' H') (p : Pre K al own ρ σ H) {v : List (PyData × V × V)} {d : List (PyData × PyData)} {as : List Addr} (r : RpK K H v d as) (z : ∀ b ∈ as, Zf al own b) : RpK K H' v d as ∧ ∀ b ∈ as, Zf al own' b := by
  refine ⟨RpK.keep (W := Wr own ρ) s.keep p.wrM d v as r fun b hb => (z b hb).2.wr, fun b hb => ⟨(z b hb).1, fun i e => ?_⟩⟩
  rcases s.nw i b e with q | q
  · obtain ⟨j, q⟩ := q; exact (z b hb).2 j q
  · exact RpK.there d v as r b hb q
variable {kx elt tg iter a b : Expr} {ifs : List Expr} {scope : Scope} {blk : List (Str × Nat)} {t : Tg} {tt : Tv} {tk te : Ev} {os : List Opd} {mk : List PyData → Option (List PyData)}
/-- what stands within the braces -/
structure BlkD (X : Cx) (scope : Scope) (blk : List (Str × Nat)) (tg kx elt : Expr) (ifs : List Expr) (t : Tg) (tt : Tv) (tk te : Ev) : Prop where
  b : Blk X scope blk tg elt ifs t tt te
  k : ∀ (s : Shared) (H : Hp) (C : Addr) (cl : List (Str × Addr)) (fp : List Addr), PE (X.blk s H scope (compEnvC scope cl C X.env) fp) kx (SemE X.kx WF tk)
end
end
end Ev
set_option Elab.async false
set_option linter.all false
set_option autoImplicit false
set_option maxRecDepth 100000
namespace Ev
open PySem PySem.Spec L2
open PyProof.Rows hiding St
noncomputable section
section
variable {K : Kx} {W : WX} {al al' : Addr → Prop} {own own' own1 own0 own2 : Own} {ρ ρ' ρ1 ρ0 ρ2 : Env} {σ σ1 σ' : St} {H H' H1 H0 H2 : Hp} {X : Cx} {pos : Pos} {vs : List Nat} {D : Addr}
/-- from (own, ρ, H) on, all but the list at D is kept -/
structure InS (D : Addr) (own : Own) (ρ : Env) (H : Hp) (own' : Own) (ρ' : Env) (H' : Hp) : Prop where
  keep : ∀ b o, H b = some o → ¬ Wr own ρ b → b ≠ D → NT o → H' b = some o
  dom : ∀ b, H' b = none → H b = none
  fz : ∀ b, Wr own' ρ' b → Wr own ρ b ∨ H b = none
  nw : ∀ i a, own' i = some a → (∃ j, own j = some a) ∨ H a = none
  lk : ∀ i d, ρ[i]? = some (some (.lk d)) → ρ'[i]? = some (some (.lk d)) ∧ own' i = own i
  io : ∀ i d, ρ[i]? = some (some (.io d)) → (∃ d', ρ'[i]? = some (some (.io d'))) ∧ own' i = own i
  ln : ρ'.length = ρ.length
theorem InS.refl : InS D own ρ H own ρ H := ⟨fun _ _ e _ _ _ => e, fun _ e => e, fun _ w => .inl w, fun i _ e => .inl ⟨i, e⟩, fun _ _ e => ⟨e, rfl⟩, fun _ _ e => ⟨⟨_, e⟩, rfl⟩, rfl⟩
theorem InS.wipe {vs : List Nat} (i : InS D own ρ H own' ρ' H') (c : CalmE ρ vs) : InS D own ρ H own' (wipeE ρ' vs) H' := ⟨i.keep, i.dom, fun b ⟨j, s, e1, e2, e3⟩ => i.fz b ⟨j, s, e1, (wipeE_some e2).1, e3⟩, i.nw, fun j d e => by
  have hj : j ∉ vs := fun h => by obtain ⟨_, z⟩ := c j h _ e; cases z
  obtain ⟨q1, q2⟩ := i.lk j d e
  exact ⟨by rw [wipeE_out hj]; exact q1, q2⟩, fun j d e => by
  have hj : j ∉ vs := fun h => by obtain ⟨_, z⟩ := c j h _ e; cases z
  obtain ⟨⟨d', q1⟩, q2⟩ := i.io j d e
  exact ⟨⟨d', by rw [wipeE_out hj]; exact q1⟩, q2⟩, by rw [wipeE_length]; exact i.ln⟩
theorem InS.then (i : InS D own ρ H own' ρ' H') (s : Stp own' ρ' H' own2 ρ2 H2) : InS D own ρ H own2 ρ2 H2 where
  keep := fun b o e w n t => s.keep b o (i.keep b o e w n t) (fun q => (i.fz b q).elim w fun z => by rw [z] at e; cases e) t
  dom := fun b e => i.dom b (s.dom b e)
  fz := fun b w => (s.fz b w).elim (i.fz b) fun z => .inr (i.dom b z)
  nw := fun j a e => (s.nw j a e).elim (fun ⟨k, q⟩ => i.nw k a q) fun z => .inr (i.dom a z)
  lk := fun j d e => by
    obtain ⟨q1, q2⟩ := i.lk j d e
    obtain ⟨q3, q4⟩ := s.lk j d q1
    exact ⟨q3, q4.trans q2⟩
  io := fun j d e => by
    obtain ⟨⟨d1, q1⟩, q2⟩ := i.io j d e
    obtain ⟨q3, q4⟩ := s.io j d1 q1
    exact ⟨q3, q4.trans q2⟩
  ln := s.ln.trans i.ln
theorem InS.upd {o : HO} (i : InS D own ρ H own' ρ' H') (h : H' D ≠ none) : InS D own ρ H own' ρ' (L2.upd H' D o) where
  keep := fun b x e w n t => by rw [L2.upd_ne n]; exact i.keep b x e w n t
  dom := fun b e => by
    by_cases hb : b = D
    · rw [hb, L2.upd_same] at e; cases e
    · rw [L2.upd_ne hb] at e; exact i.dom b e
  fz := i.fz
  nw := i.nw
  lk := i.lk
  io := i.io
  ln := i.ln
/-- what the inner loop finds: the list so far at D -/
structure InP (K : Kx) (al : Addr → Prop) (D : Addr) (σ : St) (H : Hp) (own : Own) (ρ : Env) (n : Nat) (ds : List PyData) : Prop where
  pre : Pre K (fun b => al b ∧ b ≠ D) own ρ σ H
  free : Free own D
  lst : ∃ acc bs, H D = some (.lst acc) ∧ acc.length ≤ n ∧ RpA K H acc ds bs ∧ ∀ b ∈ bs, Zf (fun b => al b ∧ b ≠ D) own b
theorem InP.there {n : Nat} {ds : List PyData} (i : InP K al D σ H own ρ n ds) : H D ≠ none := by
  obtain ⟨acc, bs, h, _⟩ := i.lst
  rw [h]
  exact fun z => nomatch z
theorem InP.wipe {n : Nat} {ds : List PyData} (i : InP K al D σ H own ρ n ds) (vs : List Nat) : InP K al D (wipe σ vs) H own (wipeE ρ vs) n ds := ⟨i.pre.wipe vs, i.free, i.lst⟩
theorem InP.grow {n : Nat} {ds : List PyData} (i : InP K al D σ H own ρ n ds) (g : Grow H H') : InP K al D σ H' own ρ n ds := by
  obtain ⟨acc, bs, h1, h2, h3, h4⟩ := i.lst
  exact ⟨i.pre.grow g, i.free, acc, bs, g.1 _ _ h1, h2, g.rpA h3, h4⟩
theorem InP.step {n : Nat} {ds : List PyData} (i : InP K al D σ H own ρ n ds) (p : Pre K (fun b => al b ∧ b ≠ D) own' ρ' σ' H') (s : Stp own ρ H own' ρ' H') : InP K al D σ' H' own' ρ' n ds := by
  have t := i.there
  obtain ⟨acc, bs, h1, h2, h3, h4⟩ := i.lst
  obtain ⟨r, z⟩ := s.rpA i.pre h3 h4
  exact ⟨p, Free.after i.free t s, acc, bs, s.keep D _ h1 i.free.wr (trivial), h2, r, z⟩
/-- the inner loop -/
theorem InP.len {n : Nat} {ds : List PyData} (i : InP K al D σ H own ρ n ds) : InP K al D σ H own ρ ds.length ds := ⟨i.pre, i.free, let ⟨acc, bs, h1, h2, h3, h4⟩ := i.lst; ⟨acc, bs, h1, Nat.le_of_eq h3.length, h3, h4⟩⟩
end
end
end Ev
set_option Elab.async false
set_option linter.all false
set_option autoImplicit false
set_option maxRecDepth 100000
namespace Ev
open PySem PySem.Spec L2
open PyProof.Rows hiding St
noncomputable section
section
variable {K : Kx} {W : WX} {al al' : Addr → Prop} {own own' own1 own0 own2 : Own} {ρ ρ' ρ1 ρ0 ρ2 : Env} {σ σ1 σ' : St} {H H' H1 H0 H2 : Hp} {X : Cx} {pos : Pos} {vs : List Nat} {D : Addr}
variable {elt tg iter tg1 iter1 : Expr} {ifs ifs1 : List Expr} {scope : Scope} {blk : List (Str × Nat)} {t t1 : Tg} {tt tt1 : Tv} {f1 te : Ev} {vs1 : List Nat} {os : List Opd} {mk : List PyData → Option (List PyData)}
/-- the second clause -/
structure Blk2 (X : Cx) (scope : Scope) (blk : List (Str × Nat)) (tg1 iter1 : Expr) (ifs1 : List Expr) (f1 : Ev) (t1 : Tg) (vs1 : List Nat) (tt1 : Tv) : Prop where
  i : ∀ (s : Shared) (H : Hp) (C : Addr) (cl : List (Str × Addr)) (fp : List Addr), PE (X.blk s H scope (compEnvC scope cl C X.env) fp) iter1 (SemE X.kx WF f1)
  g : ∀ (s : Shared) (H : Hp) (C : Addr) (cl : List (Str × Addr)) (fp : List Addr), PG (X.blk s H scope (compEnvC scope cl C X.env) fp) tg1 (SemG X.kx t1)
  c : ∀ (s : Shared) (H : Hp) (C : Addr) (cl : List (Str × Addr)) (fp : List Addr), PTs (X.blk s H scope (compEnvC scope cl C X.env) fp) ifs1 (SemT X.kx WF tt1)
  v : ∀ i ∈ t1.ixs, i ∈ vs1
  s : ∀ i ∈ vs1, i ∈ blk.map (·.2)
end
end
end Ev
set_option Elab.async false
set_option linter.all false
set_option autoImplicit false
set_option maxRecDepth 100000
namespace Ev
open PySem PySem.Spec L2
open PyProof.Rows hiding St
open RZ
section
variable {prog : Program} {w : World} {A : Around} {E : Value → Shared → Prop} {s : Shared}
/-- a zip that gives nothing -/
structure Zip0 (h : Heap) (z TI TO i1 i2 l1 l2 : Addr) (xs ys : Array Value) : Prop where
  D : ZipApart z TI TO i1 i2 l1 l2
  hz : IsZip h z TI TO .none
  hTI : IsPair h TI (.ref i1) (.ref i2)
  hTO : IsPair h TO .none .none
  h1 : h.IsTupleIter i1 l1 0
  h2 : h.IsTupleIter i2 l2 0
  hl1 : h.IsTuple l1 xs
  hl2 : h.IsTuple l2 ys
  none : xs.size = 0 ∨ ys.size = 0
theorem Zip0.at {h h' : Heap} {z TI TO i1 i2 l1 l2 : Addr} {xs ys : Array Value} (x : Zip0 h z TI TO i1 i2 l1 l2 xs ys) (k : ∀ b o, h.get? b = some o → h'.get? b = some o) : Zip0 h' z TI TO i1 i2 l1 l2 xs ys where
  D := x.D
  hz := k _ _ x.hz
  hTI := k _ _ x.hTI
  hTO := k _ _ x.hTO
  h1 := x.h1.at fun o e => k _ _ e
  h2 := x.h2.at fun o e => k _ _ e
  hl1 := x.hl1.at fun o e => k _ _ e
  hl2 := x.hl2.at fun o e => k _ _ e
  none := x.none
theorem Zip0.typeIs {z TI TO i1 i2 l1 l2 : Addr} {xs ys : Array Value} (x : Zip0 s.heap z TI TO i1 i2 l1 l2 xs ys) : s.TypeIs (.ref z) "zip" := ⟨_, x.hz, rfl⟩
end
noncomputable section
section
variable {K : Kx} {W : WX} {σ : L2.St} {H : Hp} {X : Cx} {pos p p2 q2 : Pos} {a b : Expr} {oa ob : Opd}
end
end
end Ev
set_option Elab.async false
set_option linter.all false
set_option autoImplicit false
set_option maxRecDepth 100000
namespace Ev
open PySem PySem.Spec L2
open PyProof.Rows hiding St
open LamX (TabB)
section
variable {P : Program} {w : World} {K : PySem.W.Frag} {mg : Str → Option Value} {base : Heap} {x qual C : Str} {params : Arguments} {body : List Stmt} {scope : Scope} {dvs : List V} {kws : List (Str × V)} {f : Addr} {fd : FuncData}
end
noncomputable section
section
variable {P : Program} {w : World} {K : PySem.W.Frag} {mg : Str → Option Value} {base : Heap} {x qual C : Str} {params : Arguments} {body : List Stmt} {scope : Scope} {f : Addr} {fd : FuncData} {N ps : List Str} {fb : EvS} {lv : Nat}
end
end
end Ev
set_option Elab.async false
set_option linter.all false
set_option autoImplicit false
set_option maxRecDepth 100000
namespace Ev
open PySem PySem.Spec L2 PyProof.Rows
open LamX (TabB)
section
variable {P : Program} {w : World} {K : PySem.W.Frag} {mg mb : Str → Option Value} {CX : CXT} {k : Nat} {g a c T : Addr} {fd : FuncData} {x : Str} {sp : Sp} {t : Shared} {us : List Value} {ns : List Int}
end
end Ev
set_option Elab.async false
set_option linter.all false
set_option autoImplicit false
set_option maxRecDepth 100000
namespace InT
open PySem PySem.W PySem.Calls PyProof.Rows
abbrev TP := List Str × List Str
def strVs : List Str → Nat → List Value
  | [], _ => []
  | x :: xs, t => .str x t :: strVs xs (t + 1)
def tupO (l : List Str) (t : Nat) : Obj := { cls := .type "tuple", data := .seq (strVs l t).toArray }
inductive Op where
  | dic
  | tup (l : List Str)
  | put (d : Addr) (e : DictEntry) (k : Nat)
def Op.run (s : Shared) : Op → Shared
  | .dic => { s with heap := s.heap.push { cls := .type "dict", data := .dict #[] } }
  | .tup l => { s with heap := s.heap.push (tupO l s.toks), toks := s.toks + l.length }
  | .put d e k => { s with heap := s.heap.update d (Obj.mapDictKeys fun es => es.push e), toks := s.toks + k }
def kOf (l : List Str) : NestedKey := .tup (l.map .text)
section
variable {prog : Program} {w : World} {A : Around} {E : Value → Shared → Prop} {env : Env}
def small (ps : List TP) : Bool := ps.all fun p => Nat.ble p.1.length 1000 && Nat.ble p.2.length 1000
theorem size_push (h : Heap) (o : Obj) : (h.push o).objs.size = h.objs.size + 1 := by
  obtain ⟨a, l⟩ := h
  simp [Heap.push]
abbrev knd (prog : Program) (w : World) := nestedKind prog w
/-- the keys stand at n, n + 2, .. -/
def KeysAt (prog : Program) (w : World) (h : Heap) : List TP → Addr → Prop
  | [], _ => True
  | p :: r, n => (knd prog w).is h (kOf p.1) n ∧ KeysAt prog w h r (n + 2)
theorem KeysAt.keep {d : Addr} {xs : List (NestedKey × Addr × Value)} {h h' : Heap} (hm : h.DictOfH (knd prog w) d xs) (sb : Heap.SameBut d h h') : ∀ (ps : List TP) (n : Addr), KeysAt prog w h ps n → KeysAt prog w h' ps n
  | [], _, _ => trivial
  | p :: r, n, k => by
    obtain ⟨o, es, ep, ho, _, hd, _⟩ := hm
    exact ⟨(knd prog w).keeps k.1 ho hd sb, KeysAt.keep (h := h) ⟨o, es, ep, ho, ‹_›, hd, ‹_›⟩ sb r (n + 2) k.2⟩
def good (ps : List TP) : Bool := small ps && (Nat.ble ps.length 15 && (!ps.isEmpty && decide (ps.map fun p => kOf p.1).Nodup))
end
end InT
set_option Elab.async false
set_option linter.all false
set_option autoImplicit false
set_option maxRecDepth 100000
noncomputable section
namespace InT
open PySem PySem.W PySem.Calls PyProof.Rows HandSHeadRun
section
variable (den : Code → Sem Fin) (p : Program) (w : World)
inductive Ok (n₀ : Nat) (ann : Option Value) : Shared → Thread → Shared → Thread → Prop
  | refl (s : Shared) (t : Thread) : Ok n₀ ann s t s t
  | step {s : Shared} {t : Thread} {s₁ : Shared} {t₁ : Thread} {s' : Shared} {t' : Thread} : stepOk n₀ ann t = true → PySem.step den p w s t = .go s₁ t₁ → Ok n₀ ann s₁ t₁ s' t' → Ok n₀ ann s t s' t'
inductive Cm : Shared → Thread → Shared → Thread → Prop
  | refl (s : Shared) (t : Thread) : Cm s t s t
  | step {s : Shared} {t : Thread} {s₁ : Shared} {t₁ : Thread} {s' : Shared} {t' : Thread} : t.calm = true → PySem.step den p w s t = .go s₁ t₁ → Cm s₁ t₁ s' t' → Cm s t s' t'
end
section
variable {den : Code → Sem Fin} {p : Program} {w : World} {n₀ : Nat} {ann : Option Value} {s s₁ s' σ : Shared} {t t₁ t' τ : Thread}
theorem Ok.trans (h : Ok den p w n₀ ann s t s₁ t₁) (h' : Ok den p w n₀ ann s₁ t₁ s' t') : Ok den p w n₀ ann s t s' t' := by
  induction h with
  | refl => exact h'
  | step a b _ ih => exact .step a b (ih h')
theorem Cm.trans (h : Cm den p w s t s₁ t₁) (h' : Cm den p w s₁ t₁ s' t') : Cm den p w s t s' t' := by
  induction h with
  | refl => exact h'
  | step a b _ ih => exact .step a b (ih h')
/-- what such steps leave as it was -/
structure Kp (n₀ : Nat) (ann : Option Value) (s s' : Shared) : Prop where
  life : s'.heap.life = s.heap.life
  os : s'.os = s.os
  keep : ∀ b o, b < n₀ → b ≠ mainNs → b ≠ cStatics → ann ≠ some (.ref b) → s.heap.get? b = some o → s'.heap.get? b = some o
theorem Kp.refl : Kp n₀ ann s s := ⟨rfl, rfl, fun _ _ _ _ _ _ e => e⟩
theorem Kp.trans (h : Kp n₀ ann s s₁) (h' : Kp n₀ ann s₁ s') : Kp n₀ ann s s' := ⟨h'.life.trans h.life, h'.os.trans h.os, fun b o a1 a2 a3 a4 e => h'.keep b o a1 a2 a3 a4 (h.keep b o a1 a2 a3 a4 e)⟩
theorem kp_step (hk : stepOk n₀ ann t = true) (hs : PySem.step den p w s t = .go s' t') : Kp n₀ ann s s' := by
  obtain ⟨_, hq⟩ := Bool.and_eq_true_iff.mp hk
  refine ⟨step_life den p w s s' t t' hs, step_os_same hs (by revert hq; cases t.cur <;> simp), fun b o h1 h2 h3 h4 e => ?_⟩
  rw [PySem.step_heap den p w s s' t t' hs]
  revert hq
  cases hc : t.cur with
  | update a part f k =>
    intro hq
    have ne : b ≠ a := fun z => by
      subst z
      simp only [Bool.or_eq_true, Nat.ble_eq, beq_iff_eq] at hq
      rcases hq with ((q | q) | q) | q
      · omega
      · exact h2 q
      · exact h3 q
      · exact h4 q
    exact (Heap.get?_update_ne _ _ _ _ ne).trans e
  | alloc x k => intro _; exact Heap.get?_push_of_some x e
  | _ => intro _; exact e
theorem Ok.kp (h : Ok den p w n₀ ann s t s' t') : Kp n₀ ann s s' := by
  induction h with
  | refl => exact .refl
  | step a b _ ih => exact (kp_step a b).trans ih
end
end InT
set_option Elab.async false
set_option linter.all false
set_option autoImplicit false
set_option maxRecDepth 100000
noncomputable section
namespace InT
open PySem PySem.W PySem.Calls PyProof.Rows HandSHeadRun
section
variable (st : SharedT → Thread → Option (SharedT × Thread)) (n0 : Nat) (ann : Option Value)
end
section
variable {tb : String → Option Builtin} {p : Program} {w : World} {n0 : Nat} {ann : Option Value}
end
end InT
set_option Elab.async false
set_option linter.all false
set_option autoImplicit false
set_option maxRecDepth 100000
noncomputable section
namespace InT
open PySem PySem.W PySem.Calls PyProof.Rows HandSHeadRun
section
variable (st : SharedT → Thread → Option (SharedT × Thread)) (n0 : Nat) (ann : Option Value) (M i : Nat) (w : World) (pp : Pos)
end
section
variable {p : Program} {w : World} {n0 : Nat} {ann : Option Value} {M i : Nat}
abbrev dn := denote treeTable
end
end InT
set_option Elab.async false
set_option linter.all false
set_option autoImplicit false
set_option maxRecDepth 100000
noncomputable section
namespace InT
open PySem PySem.W PySem.Calls PyProof.Rows HandSHeadRun
/-- what a law's walk may rest on -/
structure After (p q : Program) (loose : List Str) (XP : (Str → Option Value) → Heap → Prop) (YP : World → Heap → Prop) (w : World) (s₀ s₁ : Shared) : Prop where
  ran : TopRan p w s₀ s₁
  asleep : s₁.asleep
  gens : s₁.gens = #[]
  ns : s₁.heap.isNs mainGlobals = true
  ground : Ground q loose [] XP w s₁ (s₁.heap.nsMap mainGlobals) (s₁.heap.nsMap builtinsNs) s₁.heap
  says : YP w s₁.heap
section
variable {r : OpenRow} {q : Program} {loose : List Str} {XP : (Str → Option Value) → Heap → Prop} {YP : World → Heap → Prop} {d : DefRec} {kwd : List (Str × Expr)}
end
end InT
set_option Elab.async false
set_option linter.all false
set_option autoImplicit false
set_option maxRecDepth 100000
noncomputable section
namespace InT
open PySem PySem.W PySem.Calls PyProof.Rows HandSHeadRun
def txtV : Value → Option Str
  | .str x _ => some x
  | _ => none
def txtsV : List Value → Option (List Str)
  | [] => some []
  | v :: r => match txtV v, txtsV r with
    | some x, some l => some (x :: l)
    | _, _ => none
def txtsK (K : Frag) (a : Addr) : Option (List Str) := match K.lookup a with
  | some ⟨.type c, none, .seq its _, sl⟩ => (match decide (c = "tuple") && sl.isEmpty with
    | true => txtsV its.toList
    | false => none)
  | _ => none
def entK (K : Frag) (e : DictEntry) : Option (Int × TP) := match e.key, e.val with
  | .ref a, .ref b => (match txtsK K a, txtsK K b with
    | some k, some v => some (e.hash, k, v)
    | _, _ => none)
  | _, _ => none
def tabW (w : World) (ps : List TP) : List (Option (Int × TP)) := ps.map fun p => some ((kOf p.1).hash w, p)
/-- the dict at a, of the fragment, as the pairs ps say -/
structure TabK (K : Frag) (w : World) (a : Addr) (ps : List TP) (o : Obj) (es : Array DictEntry) (ep : Nat) : Prop where
  at_ : K.lookup a = some o
  exact : o.ExactDict
  data : o.data = .dict es ep
  ents : es.toList.map (entK K) = tabW w ps
  sys : (a == sysModules) = false
end InT
set_option Elab.async false
set_option linter.all false
set_option autoImplicit false
set_option maxRecDepth 100000
namespace Ev
open PySem PySem.Spec L2
open PyProof.Rows hiding St
open InT (TP kOf TabK txtV txtsV txtsK entK tabW)
noncomputable section
section
variable {K : PySem.W.Frag} {P : Program} {w : World} {h : Heap} {a : Addr} {ps : List TP} {o : Obj} {es : Array DictEntry} {ep : Nat}
end
section
variable {K : Kx} {W : WX} {σ : St} {H : Hp} {X : Cx} {pos apos p : Pos} {e : Expr} {oe : Opd} {x : Str}
end
end
end Ev
set_option Elab.async false
set_option linter.all false
set_option autoImplicit false
set_option maxRecDepth 100000
namespace InT
open PySem PySem.W PySem.Calls PyProof.Rows HandSHeadRun
noncomputable section
end
end InT
set_option Elab.async false
set_option linter.all false
set_option autoImplicit false
set_option maxRecDepth 100000
namespace Ev
open PySem PySem.Spec L2
open PyProof.Rows hiding St
open InT (TP TabK)
noncomputable section
def ftF (l : List (Str × Str)) : Str → Str → Bool := fun C f => l.any fun p => decide (p.1 = C) && decide (p.2 = f)
def ftB (l : List (Str × Str)) (K : PySem.W.Frag) : Bool := l.all fun p => (He.Fa.cls p.1).ok K && ((He.Fa.noat p.1 p.2).ok K && decide (p.2 ≠ knownN))
theorem ftB_ok {l : List (Str × Str)} {K : PySem.W.Frag} (h : ftB l K = true) : OF K (ftF l) := fun C f e => by
  obtain ⟨p, hp, q⟩ := List.any_eq_true.mp e
  obtain ⟨q1, q2⟩ := Bool.and_eq_true_iff.mp q
  have z := List.all_eq_true.mp h p hp
  obtain ⟨z1, z2⟩ := Bool.and_eq_true_iff.mp z
  obtain ⟨z2, z3⟩ := Bool.and_eq_true_iff.mp z2
  rw [← of_decide_eq_true q1, ← of_decide_eq_true q2]
  exact ⟨He.cls_ok z1, He.noat_ok z2, of_decide_eq_true z3⟩
def mthB (l : List (Str × Str)) (K : PySem.W.Frag) : Bool := l.all fun p => (He.Fa.cls p.1).ok K && (He.Fa.meth p.1 p.2).ok K
def mkB (l : List Str) (K : PySem.W.Frag) : Bool := l.all fun C => (He.Fa.mkr C).ok K
section
variable {K : Kx} {W : WX} {σ : St} {H : Hp} {X : Cx} {pos apos p : Pos} {e : Expr} {oe : Opd} {x : Str}
end
end
end Ev
set_option Elab.async false
set_option linter.all false
set_option autoImplicit false
set_option maxRecDepth 100000
namespace Ev
open PySem PySem.Spec L2
open PyProof.Rows hiding St
noncomputable section
section
variable {K : Kx} {W : WX} {σ : L2.St} {H : Hp} {X : Cx} {pos p p2 : Pos} {e : Expr}
end
end
end Ev
set_option Elab.async false
set_option linter.all false
set_option autoImplicit false
set_option maxRecDepth 100000
namespace Ev
open PySem PySem.Spec L2
open PyProof.Rows hiding St
noncomputable section
section
variable {K : Kx} {W : WX} {al : Addr → Prop} {own own' : Own} {ρ ρ' ρ1 : Env} {σ σ' : L2.St} {H H' : Hp} {X : Cx} {pos p p2 p3 : Pos} {o e : Expr}
theorem ConfM.put {n : Int} {kvs : List (List Key × V)} (h : ConfM n kvs) {k : List Key} {z : Int} (hk : memT n k = some z) : ConfM n (putK kvs k (.int z)) := by
  cases hn : valV kvs k with
  | none =>
    refine ⟨nd_putK (.int z) h.1 hn, fun p hp => ?_⟩
    rw [putK_new (.int z) hn] at hp
    rcases List.mem_append.mp hp with hp | hp
    · exact h.2 p hp
    · simp only [List.mem_singleton] at hp
      subst hp
      exact ⟨z, hk, rfl⟩
  | some w =>
    have any : (kvs.any fun kv => decide (kv.1 = k)) = true := by rw [valV_any, hn]; rfl
    unfold putK
    rw [if_pos any]
    refine ⟨?_, fun p hp => ?_⟩
    · have e : (kvs.map fun kv => if kv.1 = k then (kv.1, V.int z) else kv).map (·.1) = kvs.map (·.1) := by
        rw [List.map_map]
        refine List.map_congr_left fun a _ => ?_
        simp only [Function.comp]
        split <;> rfl
      rw [e]
      exact h.1
    · obtain ⟨q, hq, e⟩ := List.mem_map.mp hp
      by_cases c : q.1 = k
      · rw [if_pos c] at e
        subst e
        exact ⟨z, by rw [show ((q.1, V.int z) : List Key × V).1 = k from c]; exact hk, rfl⟩
      · rw [if_neg c] at e
        subst e
        exact h.2 q hq
theorem Vw.look {i : Nat} {d : PyData} (p : Pre K al own ρ σ H) (h : look ρ (.pl i) = some d) : ∃ v, σ[i]? = some (some v) ∧ Vw K H (Zf al own) v d := by
  cases e : ρ[i]? with
  | none => simp [Ev.look, e] at h
  | some x =>
    cases x with
    | none => simp [Ev.look, e] at h
    | some s =>
      obtain ⟨v, hv, ok0⟩ := p.sl i s e
      cases s with
      | ex a c => simp [Ev.look, e] at h
      | sh d0 => simp [Ev.look, e, Sl.d] at h; subst h; exact ⟨v, hv, Vw.of_slot ok0 fun _ _ z => nomatch z⟩
      | ow d0 => simp [Ev.look, e, Sl.d] at h; subst h; exact ⟨v, hv, Vw.of_slot ok0 fun _ _ z => nomatch z⟩
      | io d0 => simp [Ev.look, e, Sl.d] at h; subst h; exact ⟨v, hv, Vw.of_slot ok0 fun _ _ z => nomatch z⟩
      | lk d0 => simp [Ev.look, e, Sl.d] at h; subst h; exact ⟨v, hv, Vw.of_slot ok0 fun _ _ z => nomatch z⟩
end
end
end Ev
set_option Elab.async false
set_option linter.all false
set_option autoImplicit false
set_option maxRecDepth 100000
namespace Ev
open PySem PySem.Spec L2
open PyProof.Rows hiding St
open RZ
noncomputable section
section
variable {X : Cx} {pins : List (Addr × Obj)} {σ : L2.St} {H : Hp} {s : Shared}
/-- a zip of two lists that nobody has asked -/
structure ZS (H : Hp) (z TI TO i1 i2 a b : Addr) : Prop where
  z : H z = some (.ext fun h => IsZip h z TI TO .none)
  TI : H TI = some (.ext fun h => IsPair h TI (.ref i1) (.ref i2))
  TO : H TO = some (.ext fun h => IsPair h TO .none .none)
  i1 : H i1 = some (.ext fun h => h.IsListIter i1 a 0)
  i2 : H i2 = some (.ext fun h => h.IsListIter i2 b 0)
end
end
end Ev
set_option Elab.async false
set_option linter.all false
set_option autoImplicit false
set_option maxRecDepth 100000
namespace Ev
open PySem PySem.Spec L2
open PyProof.Rows hiding St
open RZ
noncomputable section
section
variable {K : Kx} {W : WX} {al : Addr → Prop} {own own' : Own} {ρ ρ' ρ1 : Env} {σ σ' : L2.St} {H H' : Hp} {X : Cx} {pos p p2 p3 pz pc plc px : Pos}
end
end
end Ev
set_option Elab.async false
set_option linter.all false
set_option autoImplicit false
set_option maxRecDepth 100000
namespace Ev
open PySem PySem.Spec L2
open PyProof.Rows hiding St
noncomputable section
section
variable {prog : Program} {w : World} {A : Around} {s : Shared} {mg mb : Str → Option Value} {f t : Addr} {params : Arguments} {scope : Scope} {pm ctv dV kV doc cdv oc : Value} {an od : Option Addr} {osl : Array (Option Value)} {name qual x : Str} {p1 p2 p3 p4 p5 pr : Pos} {kk : Nat} {us : List Value} {ns : List Int}
end
section
variable {K : Kx} {W : WX} {al al' : Addr → Prop} {own own' own1 : Own} {ρ ρ' ρ1 ρ2 : Env} {σ σ1 σ' : St} {H H' H1 : Hp} {X : Cx} {pos p apos : Pos} {D : Ends}
end
end
end Ev
set_option Elab.async false
set_option linter.all false
set_option autoImplicit false
set_option maxRecDepth 100000
namespace Ev
open PySem PySem.Spec L2
open PyProof.Rows hiding St
open RZ
section
variable {prog : Program} {w : World} {A : Around} {E : Value → Shared → Prop} {s : Shared}
/-- the tuple that was given out is still held: a new one is made -/
theorem zt_held {z TI TO T j1 j2 t1 t2 : Addr} {fl : Bool} {ob : Obj} {k : Nat} {xs ys : Array Value} {Q : Option Value → Shared → Prop} (D : ZipApart z TI TO j1 j2 t1 t2) (hz : IsZipHeld s.heap z TI TO T fl) (hT : s.heap.get? T = some ob)
    (hTI : IsPair s.heap TI (.ref j1) (.ref j2)) (g1 : s.heap.IsTupleIter j1 t1 k) (g2 : s.heap.IsTupleIter j2 t2 k) (u1 : s.heap.IsTuple t1 xs) (u2 : s.heap.IsTuple t2 ys) {x y : Value} (hx : xs[k]? = some x) (hy : ys[k]? = some y)
    (q : ∀ g, IsZipHeld g z TI TO T true → g.IsTupleIter j1 t1 (k + 1) → g.IsTupleIter j2 t2 (k + 1) → IsPair g s.heap.objs.size x y → g.objs.size = s.heap.objs.size + 1 → (∀ c o, c ≠ z → c ≠ j1 → c ≠ j2 → s.heap.get? c = some o → g.get? c = some o) → Q (some (.ref s.heap.objs.size)) { s with heap := g }) :
    wpAny (model prog w) A (pyNext (.ref z)) Q E s := by
  have ty : s.TypeIs (.ref z) "zip" := ⟨_, hz, rfl⟩
  unfold pyNext
  refine wpAny_bind (wpAny_attempt (wpAny_callSpecial?_slot (name := Str.ofString "__next__") ty F.slot_zip_next (wpAny_call_entry F.slot_zip_next ty F.entry_zip_next (Q := fun v s' => wpAny (model prog w) A (pure (some v)) Q E s') ?_ (F.args_zip_next_1 _))))
  show wpAny _ _ (field (.ref z) 2 >>= _) _ _ _; refine wpAny_bind (wpAny_field hz rfl (x := .bool false) rfl ?_)
  show wpAny _ _ (field (.ref z) 3 >>= _) _ _ _; refine wpAny_bind (wpAny_field hz rfl (x := .ref TI) rfl (wpAny_bind (wpAny_seqItems hTI rfl ?_)))
  show wpAny _ _ (Builtin.SmallTypes.ownedTupleIsFree (.ref z) >>= _) _ _ _; refine wpAny_bind (wpAny_tupleHeld_zip hz hT fun ha hza sa => ?_)
  simp only [Bool.false_eq_true, if_false]; refine wpAny_bind ?_; rw [← Array.forIn_toList]; simp only [List.forIn_cons, List.forIn_nil]
  refine wpAny_bind (wpAny_bind (wpAny_holding ?_)); show wpAny _ _ (Builtin.SmallTypes.nextOf (.ref j1) >>= _) _ _ _
  refine wpAny_bind (nextOf_tuple_item (s := { s with heap := ha }) (g1.extBut sa.extBut D.i1z) (u1.extBut sa.extBut D.l1z) hx fun hb g1b sb => wpAny_pure (wpAny_pure ?_))
  refine wpAny_bind (wpAny_bind (wpAny_holding ?_)); show wpAny _ _ (Builtin.SmallTypes.nextOf (.ref j2) >>= _) _ _ _
  refine wpAny_bind (nextOf_tuple_item (s := { s with heap := hb }) ((g2.extBut sa.extBut D.i2z).extBut sb.extBut D.i12.symm) ((u2.extBut sa.extBut D.l2z).extBut sb.extBut D.l2i1) hy fun hc g2c sc => wpAny_pure (wpAny_pure (wpAny_pure ?_)))
  show wpAny _ _ (newTuple [x, y] >>= _) _ _ _; refine wpAny_bind (wpAny_newTuple (wpAny_pure ⟨_, rfl, wpAny_pure ?_⟩))
  have hsz : hc.objs.size = s.heap.objs.size := by rw [sc.1, sb.1, sa.1]
  have hk : ∀ c o, c ≠ z → c ≠ j1 → c ≠ j2 → s.heap.get? c = some o → hc.get? c = some o := fun c o c1 c2 c3 e => sc.extBut _ _ c3 (sb.extBut _ _ c2 (sa.extBut _ _ c1 e))
  have hzc : IsZipHeld hc z TI TO T true := sc.extBut _ _ D.i2z.symm (sb.extBut _ _ D.i1z.symm hza)
  show Q (some (.ref hc.objs.size)) _
  have np : IsPair (hc.push { cls := .type "tuple", data := .seq #[x, y] }) hc.objs.size x y := Heap.get?_push_size _ rfl
  have nz : (hc.push { cls := .type "tuple", data := .seq #[x, y] }).objs.size = hc.objs.size + 1 := Heap.size_push ..
  rw [hsz] at np nz ⊢
  exact q _ (Heap.get?_push_of_some _ hzc) ((g1b.extBut sc.extBut D.i12).at fun o e => Heap.get?_push_of_some _ e) (g2c.at fun o e => Heap.get?_push_of_some _ e) np nz fun c o c1 c2 c3 e => Heap.get?_push_of_some _ (hk c o c1 c2 c3 e)
theorem zt_held_end {z TI TO T j1 j2 t1 t2 : Addr} {fl : Bool} {ob : Obj} {k : Nat} {xs ys : Array Value} {Q : Option Value → Shared → Prop} (hh : A.handled = none) (D : ZipApart z TI TO j1 j2 t1 t2) (hz : IsZipHeld s.heap z TI TO T fl) (hT : s.heap.get? T = some ob)
    (hTI : IsPair s.heap TI (.ref j1) (.ref j2)) (g1 : s.heap.IsTupleIter j1 t1 k) (g2 : s.heap.IsTupleIter j2 t2 k) (u1 : s.heap.IsTuple t1 xs) (u2 : s.heap.IsTuple t2 ys) (hend : xs[k]? = none ∨ ys[k]? = none)
    (q : ∀ g, (∀ c o, c ≠ z → c ≠ j1 → c ≠ j2 → s.heap.get? c = some o → g.get? c = some o) → Q none { s with heap := g }) :
    wpAny (model prog w) A (pyNext (.ref z)) Q E s := by
  have ty : s.TypeIs (.ref z) "zip" := ⟨_, hz, rfl⟩
  have done : ∀ g e, (∀ c o, c ≠ z → c ≠ j1 → c ≠ j2 → s.heap.get? c = some o → g.get? c = some o) → (∃ o, g.get? e = some o ∧ o.cls = .type "StopIteration") → wpAny (model prog w) A (do if ← isInstance (.ref e) (.type "StopIteration") then return none else throw (.ref e)) Q E { s with heap := g } := fun g e k1 ⟨o, ho, hc⟩ =>
    wpAny_bind (wpAny_isInstance (T := "StopIteration") (b := true) ⟨o, ho, hc⟩ isSubtype_stop (wpAny_pure (q g k1)))
  unfold pyNext
  refine wpAny_bind (wpAny_attempt (wpAny_callSpecial?_slot (name := Str.ofString "__next__") ty F.slot_zip_next (wpAny_call_entry F.slot_zip_next ty F.entry_zip_next ?_ (F.args_zip_next_1 _))))
  show wpAny _ _ (field (.ref z) 2 >>= _) _ _ _; refine wpAny_bind (wpAny_field hz rfl (x := .bool false) rfl ?_)
  show wpAny _ _ (field (.ref z) 3 >>= _) _ _ _; refine wpAny_bind (wpAny_field hz rfl (x := .ref TI) rfl (wpAny_bind (wpAny_seqItems hTI rfl ?_)))
  show wpAny _ _ (Builtin.SmallTypes.ownedTupleIsFree (.ref z) >>= _) _ _ _; refine wpAny_bind (wpAny_tupleHeld_zip hz hT fun ha hza sa => ?_)
  simp only [Bool.false_eq_true, if_false]; refine wpAny_bind ?_; rw [← Array.forIn_toList]; simp only [List.forIn_cons, List.forIn_nil]
  refine wpAny_bind (wpAny_bind (wpAny_holding ?_)); show wpAny _ _ (Builtin.SmallTypes.nextOf (.ref j1) >>= _) _ _ _
  cases hx : xs[k]? with
  | none => exact wpAny_bind (nextOf_tuple_end (s := { s with heap := ha }) hh (g1.extBut sa.extBut D.i1z) (u1.extBut sa.extBut D.l1z) hx fun hb e sb he => done hb e (fun c o c1 c2 _ x => sb _ _ c2 (sa.extBut _ _ c1 x)) he)
  | some x =>
    have hy : ys[k]? = none := by rcases hend with h | h; rw [hx] at h; cases h; exact h
    refine wpAny_bind (nextOf_tuple_item (s := { s with heap := ha }) (g1.extBut sa.extBut D.i1z) (u1.extBut sa.extBut D.l1z) hx fun hb g1b sb => wpAny_pure (wpAny_pure ?_))
    refine wpAny_bind (wpAny_bind (wpAny_holding ?_)); show wpAny _ _ (Builtin.SmallTypes.nextOf (.ref j2) >>= _) _ _ _
    exact wpAny_bind (nextOf_tuple_end (s := { s with heap := hb }) hh ((g2.extBut sa.extBut D.i2z).extBut sb.extBut D.i12.symm) ((u2.extBut sa.extBut D.l2z).extBut sb.extBut D.l2i1) hy fun hc e sc he => done hc e (fun c o c1 c2 c3 x => sc _ _ c3 (sb.extBut _ _ c2 (sa.extBut _ _ c1 x))) he)
/-- a zip of two tuples on its way; S: the list that is filled -/
structure ZW (h : Heap) (z TI TO j1 j2 t1 t2 S : Addr) (xs ys : Array Value) (k : Nat) : Prop where
  g1 : h.IsTupleIter j1 t1 k
  g2 : h.IsTupleIter j2 t2 k
  ti : IsPair h TI (.ref j1) (.ref j2)
  u1 : h.IsTuple t1 xs
  u2 : h.IsTuple t2 ys
  zs : (IsZip h z TI TO .none ∧ ∃ a b, IsPair h TO a b) ∨ ∃ T f ob, IsZipHeld h z TI TO T f ∧ h.get? T = some ob ∧ T ≠ z ∧ T ≠ TO ∧ T ≠ j1 ∧ T ≠ j2 ∧ T ≠ S
structure ZS0 (z TI TO j1 j2 t1 t2 S : Addr) : Prop where
  z : z ≠ S
  TI : TI ≠ S
  TO : TO ≠ S
  j1 : j1 ≠ S
  j2 : j2 ≠ S
  t1 : t1 ≠ S
  t2 : t2 ≠ S
variable {z TI TO j1 j2 t1 t2 S : Addr} {xs ys : Array Value} {k : Nat} {h h' : Heap}
theorem ZW.at (x : ZW h z TI TO j1 j2 t1 t2 S xs ys k) (n : ZS0 z TI TO j1 j2 t1 t2 S) (kp : ∀ b o, b ≠ S → h.get? b = some o → h'.get? b = some o) : ZW h' z TI TO j1 j2 t1 t2 S xs ys k where
  g1 := x.g1.at fun o e => kp _ _ n.j1 e
  g2 := x.g2.at fun o e => kp _ _ n.j2 e
  ti := kp _ _ n.TI x.ti
  u1 := x.u1.at fun o e => kp _ _ n.t1 e
  u2 := x.u2.at fun o e => kp _ _ n.t2 e
  zs := x.zs.elim (fun ⟨a, b, c, e⟩ => .inl ⟨kp _ _ n.z a, b, c, kp _ _ n.TO e⟩) fun ⟨T, f, ob, a, b, c1, c2, c3, c4, c5⟩ => .inr ⟨T, f, ob, kp _ _ n.z a, kp _ _ c5 b, c1, c2, c3, c4, c5⟩
theorem ZW.item {Q : Option Value → Shared → Prop} (x : ZW s.heap z TI TO j1 j2 t1 t2 S xs ys k) (D : ZipApart z TI TO j1 j2 t1 t2) (n : ZS0 z TI TO j1 j2 t1 t2 S) (hS : S < s.heap.objs.size) {a b : Value} (hx : xs[k]? = some a) (hy : ys[k]? = some b)
    (q : ∀ g, ZW g z TI TO j1 j2 t1 t2 S xs ys (k + 1) → IsPair g s.heap.objs.size a b → g.objs.size = s.heap.objs.size + 1 → (∀ c o, c ≠ z → c ≠ TO → c ≠ j1 → c ≠ j2 → s.heap.get? c = some o → g.get? c = some o) → Q (some (.ref s.heap.objs.size)) { s with heap := g }) : wpAny (model prog w) A (pyNext (.ref z)) Q E s := by
  have new : ∀ c o, s.heap.get? c = some o → s.heap.objs.size ≠ c := fun c o e => Nat.ne_of_gt (Heap.lt_size e)
  have nj1 : s.heap.objs.size ≠ j1 := by obtain ⟨o, e, _⟩ := x.g1; exact new _ _ e
  have nj2 : s.heap.objs.size ≠ j2 := by obtain ⟨o, e, _⟩ := x.g2; exact new _ _ e
  have t1j : t1 ≠ z ∧ t1 ≠ TO ∧ t1 ≠ j1 ∧ t1 ≠ j2 := ⟨D.l1z, D.l1TO, D.l1i1, D.l1i2⟩
  rcases x.zs with ⟨hz, a0, b0, hTO⟩ | ⟨T, f, ob, hz, hT, c1, c2, c3, c4, c5⟩
  · refine pyNext_zipT_item D hz x.ti hTO x.g1 x.g2 x.u1 x.u2 hx hy fun g z1 z2 z3 z4 z5 z6 z7 => q g ⟨z3, z4, z7 _ _ D.TIz D.TITO D.TIi1 D.TIi2 x.ti, x.u1.at fun o e => z7 _ _ D.l1z D.l1TO D.l1i1 D.l1i2 e, x.u2.at fun o e => z7 _ _ D.l2z D.l2TO D.l2i1 D.l2i2 e, .inr ⟨_, false, _, z1, z5, new _ _ hz, new _ _ hTO, nj1, nj2, Nat.ne_of_gt hS⟩⟩ z5 z6 z7
  · have nz := new _ _ hz
    refine zt_held D hz hT x.ti x.g1 x.g2 x.u1 x.u2 hx hy fun g z1 z3 z4 z5 z6 z7 => q g ⟨z3, z4, z7 _ _ D.TIz D.TIi1 D.TIi2 x.ti, x.u1.at fun o e => z7 _ _ D.l1z D.l1i1 D.l1i2 e, x.u2.at fun o e => z7 _ _ D.l2z D.l2i1 D.l2i2 e, .inr ⟨T, true, ob, z1, z7 _ _ c1 c3 c4 hT, c1, c2, c3, c4, c5⟩⟩ z5 z6 fun c o n1 _ n3 n4 e => z7 c o n1 n3 n4 e
theorem ZW.stop {Q : Option Value → Shared → Prop} (x : ZW s.heap z TI TO j1 j2 t1 t2 S xs ys k) (hh : A.handled = none) (D : ZipApart z TI TO j1 j2 t1 t2) (hend : xs[k]? = none ∨ ys[k]? = none)
    (q : ∀ g, (∀ c o, c ≠ z → c ≠ TO → c ≠ j1 → c ≠ j2 → s.heap.get? c = some o → g.get? c = some o) → Q none { s with heap := g }) : wpAny (model prog w) A (pyNext (.ref z)) Q E s := by
  rcases x.zs with ⟨hz, a0, b0, hTO⟩ | ⟨T, f, ob, hz, hT, c1, c2, c3, c4, c5⟩
  · exact pyNext_zipT_end hh D hz x.ti hTO x.g1 x.g2 x.u1 x.u2 hend q
  · exact zt_held_end hh D hz hT x.ti x.g1 x.g2 x.u1 x.u2 hend fun g kp => q g fun c o n1 _ n3 n4 e => kp c o n1 n3 n4 e
/-- the pairs at these addresses, all above S, rising -/
structure Prs (h : Heap) (S : Addr) (xs ys : Array Value) (as : List Addr) : Prop where
  rise : as.Pairwise (· < ·)
  above : ∀ a ∈ as, S < a
  pair : ∀ (j : Nat) (a : Addr), as[j]? = some a → ∃ x y, xs[j]? = some x ∧ ys[j]? = some y ∧ IsPair h a x y
end
section
variable {prog : Program} {w : World} {A : Around} {s : Shared} {R : Result → Shared → Prop} {z TI TO j1 j2 t1 t2 S : Addr} {xs ys : Array Value}
end
section
variable {prog : Program} {w : World} {A : Around} {E : Value → Shared → Prop} {s : Shared}
end
end Ev
set_option Elab.async false
set_option linter.all false
set_option autoImplicit false
set_option maxRecDepth 100000
namespace Ev
open PySem PySem.Spec L2
open PyProof.Rows hiding St
noncomputable section
section
variable {K : Kx} {W : WX} {σ : L2.St} {pins : List (Addr × Obj)} {s : Shared} {H H2 : Hp} {X : Cx} {pos p p2 q2 : Pos} {a b : Expr} {oa ob : Opd}
/-- new pairs stand at as, one for each place -/
structure NewP (H H3 : Hp) (xs ys : List V) (as : List Addr) : Prop where
  far : ∀ b, b ∉ as → H3 b = H b
  new : ∀ b ∈ as, H b = none
  len : as.length = min xs.length ys.length
  pair : ∀ (j : Nat) (a : Addr), as[j]? = some a → ∃ x y o, xs[j]? = some x ∧ ys[j]? = some y ∧ o.dict = none ∧ H3 a = some (.frz o (.tup [x, y]))
theorem NewP.grow {H3 : Hp} {xs ys : List V} {as : List Addr} (n : NewP H H3 xs ys as) : Grow H H3 := by
  refine ⟨fun b o e => ?_, fun b e => ?_, fun i C dx fs e => ?_⟩
  · by_cases h : b ∈ as
    · rw [n.new b h] at e; cases e
    · exact (n.far b h).trans e
  · by_cases h : b ∈ as
    · exact n.new b h
    · exact (n.far b h).symm.trans e
  · by_cases h : i ∈ as
    · obtain ⟨j, hj⟩ := List.mem_iff_getElem?.mp h
      obtain ⟨x, y, _, _, _, _, e2⟩ := n.pair j i hj
      rw [e2] at e; cases e
    · exact .inl ((n.far i h).symm.trans e)
end
end
end Ev
set_option Elab.async false
set_option linter.all false
set_option autoImplicit false
set_option maxRecDepth 100000
namespace Ev
open PySem PySem.Spec L2
open PyProof.Rows hiding St
noncomputable section
section
variable {K : Kx} {W : WX} {σ : L2.St} {H : Hp} {X : Cx} {pos : Pos}
def numsD (kvs : List (Str × Int)) : List (PyData × PyData) := kvs.map fun p => (.str p.1, .int p.2)
def numsV (kvs : List (Str × Int)) : List (Key × V) := kvs.map fun p => (.inr p.1, .int p.2)
def numsT (kvs : List (Str × Int)) : List (TE × TE) := kvs.map fun p => (tC (.str p.1), tC (.int p.2))
def evNums (kvs : List (Str × Int)) : Ev := evPm (fun _ => some (.ow (.dict (numsD kvs)))) []
theorem tPairs_nums : ∀ (kvs : List (Str × Int)) {σ : L2.St} {H : Hp} {Q : List (V × V) → Hp → Prop}, Q (kvs.map fun p => (.str p.1, .int p.2)) H → tPairs (numsT kvs) σ H Q
  | [], _, _, _, q => q
  | p :: kvs, _, _, _, q => tPairs_nums kvs q
theorem rpK_nums : ∀ kvs : List (Str × Int), RpK K H ((numsV kvs).map fun p => (keyD p.1, kV p.1, p.2)) (numsD kvs) []
  | [] => .nil
  | p :: kvs => .cons (as := []) (bs := []) (.str p.1) (.int p.2) (rpK_nums kvs)
theorem pps_num {k : Str} {i : Int} {a b : Nat} {p1 p2 : Pos} {ks : List (Option Expr)} {vs : List Expr} {kvs : List (Str × Int)} (h : PPs X pos ks vs (numsT kvs)) : PPs X pos (some (.Constant (.str k) a p1) :: ks) (.Constant (.int i) b p2 :: vs) (numsT ((k, i) :: kvs)) := pps_cons pe_str pe_int h
theorem pps_num0 : PPs X pos [] [] (numsT []) := pps_nil
theorem pe_nums {keys : List (Option Expr)} {values : List Expr} {kvs : List (Str × Int)} (h : PPs X pos keys values (numsT kvs)) (hm : mergeK [] (numsV kvs) = numsV kvs) (h15 : kvs.length ≤ 15) (hall : keys.all (·.isSome) = true := by rfl) (hl : keys.length = values.length := by rfl) (h0 : keys ≠ [] := by exact fun z => nomatch z)
    (hk : keys.length = kvs.length := by rfl) : PE X (.Dict keys values pos) (SemE X.kx W (evNums kvs)) :=
  PE.imp (pe_disp h hall hl h0 (hk ▸ h15)) fun σ H Q h p hp => tPairs_nums kvs ⟨upd_same, numsV kvs, by simp [numsV, kV], by simpa [numsV], by
    obtain ⟨al, own, ρ, pr, h⟩ := h
    rw [hm, upd_upd]
    exact h (.ref p) (upd H p (.dK (numsV kvs))) own p (pr.lay hp) (Grow.upd hp).stp ⟨rfl, .inr ⟨.dK (numsV kvs), _, _, [], rfl, upd_same, .k _, rpK_nums kvs, fun _ z => nomatch z⟩⟩ (pr.fr p hp) (pr.freeN hp).2 (.inl hp)⟩
example {a1 a2 a3 a4 : Nat} {p1 p2 p3 p4 : Pos} : PE X (.Dict [some (.Constant (.str "set") a1 p1), some (.Constant (.str "part") a2 p2)] [.Constant (.int 11) a3 p3, .Constant (.int 10) a4 p4] pos) (SemE X.kx W (evNums [("set", 11), ("part", 10)])) := pe_nums (pps_num (pps_num pps_num0)) (by rfl) (by decide)
end
end
end Ev
set_option Elab.async false
set_option linter.all false
set_option autoImplicit false
set_option maxRecDepth 100000
namespace Ev
open PySem PySem.Spec L2
open PyProof.Rows hiding St
noncomputable section
section
variable {K : Kx} {W : WX} {σ : L2.St} {H : Hp} {X : Cx} {pos : Pos} {fs : List Ev}
theorem s_par3 {i j l : Nat} {x y z : Str} {a b c : Expr} {px py pz pt pt2 : Pos} {kt k2 : _} (hc : X.calm = true) (hN : X.N.Nodup) (hi : X.N[i]? = some x) (hj : X.N[j]? = some y) (hl : X.N[l]? = some z) (hij : i ≠ j) (hil : i ≠ l) (hjl : j ≠ l)
    (hx : X.env.scope.names.lookup x = some .local) (hy : X.env.scope.names.lookup y = some .local) (hz : X.env.scope.names.lookup z = some .local) (ha : PA X [a, b, c] (SemRs X.kx W fs))
    (hw : swappedStores [.Tuple [.Name x px, .Name y py, .Name z pz] kt pt] (.Tuple [a, b, c] k2 pt2) X.env = pure (some [x, y, z])) (hs : swapsWithSole [.Tuple [.Name x px, .Name y py, .Name z pz] kt pt] (.Tuple [a, b, c] k2 pt2) pos.line X.env = pure false := by rfl) :
    PS X (.Assign [.Tuple [.Name x px, .Name y py, .Name z pz] kt pt] (.Tuple [a, b, c] k2 pt2) pos) (SemS X.kx W (sPar [.nm i, .nm j, .nm l] fs)) :=
  PS.imp (ps_par3 hc hN hi hj hl hij hil hjl hx hy hz ha hw hs) fun D σ H h => semPar h fun vs H1 k ln _ => by
    match vs, ln with
    | [v, w, u], _ =>
      refine ⟨v, w, u, rfl, ?_⟩
      obtain ⟨al0, own0, ρ0, H0, al, own, S, own1, ρ1, rs, ρ2, m, r, b, k⟩ := k
      match rs, r, b with
      | [r1, r2, r3], r, b =>
        simp only [bindRs, bindR] at b
        cases q1 : putR i r1 ρ1 with
        | none => simp [q1] at b
        | some ρ3 =>
          simp only [q1] at b
          cases q2 : putR j r2 ρ3 with
          | none => simp [q2] at b
          | some ρ4 =>
            simp only [q2] at b
            cases q3 : putR l r3 ρ4 with
            | none => simp [q3] at b
            | some ρ5 =>
              simp only [q3, Option.some.injEq] at b
              subst b
              cases r1 with
              | sh d =>
                obtain ⟨⟨as, rr, z⟩, r⟩ := r
                have m2 := m.ash rr z q1
                cases r2 with
                | sh d2 =>
                  obtain ⟨⟨as2, rr2, z2⟩, r⟩ := r
                  have m3 := m2.ash rr2 z2 q2
                  cases r3 with
                  | sh d3 => obtain ⟨⟨as3, rr3, z3⟩, r⟩ := r; exact k _ _ _ (m3.ash rr3 z3 q3)
                  | ow d3 => obtain ⟨a, w1, w2, w3, w4, w5, w6, w7⟩ := r; exact k _ _ _ (m3.aow w1 w2 w3 w4 w5 w6 q3)
                | ow d2 =>
                  obtain ⟨a, w1, w2, w3, w4, w5, w6, r⟩ := r
                  have m3 := m2.aow w1 w2 w3 w4 w5 w6 q2
                  cases r3 with
                  | sh d3 => obtain ⟨⟨as3, rr3, z3⟩, r⟩ := r; exact k _ _ _ (m3.ash rr3 z3 q3)
                  | ow d3 => obtain ⟨a, w1, w2, w3, w4, w5, w6, w7⟩ := r; exact k _ _ _ (m3.aow w1 w2 w3 w4 w5 w6 q3)
              | ow d =>
                obtain ⟨a, w1, w2, w3, w4, w5, w6, r⟩ := r
                have m2 := m.aow w1 w2 w3 w4 w5 w6 q1
                cases r2 with
                | sh d2 =>
                  obtain ⟨⟨as2, rr2, z2⟩, r⟩ := r
                  have m3 := m2.ash rr2 z2 q2
                  cases r3 with
                  | sh d3 => obtain ⟨⟨as3, rr3, z3⟩, r⟩ := r; exact k _ _ _ (m3.ash rr3 z3 q3)
                  | ow d3 => obtain ⟨a, w1, w2, w3, w4, w5, w6, w7⟩ := r; exact k _ _ _ (m3.aow w1 w2 w3 w4 w5 w6 q3)
                | ow d2 =>
                  obtain ⟨a, w1, w2, w3, w4, w5, w6, r⟩ := r
                  have m3 := m2.aow w1 w2 w3 w4 w5 w6 q2
                  cases r3 with
                  | sh d3 => obtain ⟨⟨as3, rr3, z3⟩, r⟩ := r; exact k _ _ _ (m3.ash rr3 z3 q3)
                  | ow d3 => obtain ⟨a, w1, w2, w3, w4, w5, w6, w7⟩ := r; exact k _ _ _ (m3.aow w1 w2 w3 w4 w5 w6 q3)
      | [], _, b => simp [bindRs] at b
      | [_], _, b => simp only [bindRs] at b; split at b <;> simp [bindRs] at b
      | [_, _], _, b => simp only [bindRs] at b; split at b <;> (try split at b) <;> simp [bindRs] at b
      | _ :: _ :: _ :: _ :: _, r, b =>
        simp only [bindRs] at b
        split at b
        · split at b
          · split at b
            · simp [bindRs] at b
            · cases b
          · cases b
        · cases b
end
end
end Ev
set_option Elab.async false
set_option linter.all false
set_option autoImplicit false
set_option maxRecDepth 100000
namespace Ev
open PySem PySem.Spec L2
open PyProof.Rows hiding St
noncomputable section
section
variable {K : Kx} {W : WX} {σ : L2.St} {H : Hp} {X : Cx} {pos : Pos}
def txtV (ps : List (Str × Str)) : List (Key × V) := ps.map fun p => (.inr p.1, .str p.2)
end
end
end Ev
set_option Elab.async false
set_option linter.all false
set_option autoImplicit false
set_option maxRecDepth 100000
namespace Ev
open PySem PySem.Spec L2
open PyProof.Rows hiding St
section
variable {prog : Program} {w : World} {A : Around} {E : Value → Shared → Prop} {s : Shared} {x : Str} {t : Tok}
end
noncomputable section
section
variable {K : Kx} {W : WX} {X : Cx}
end
end
end Ev
set_option Elab.async false
set_option linter.all false
set_option autoImplicit false
set_option maxRecDepth 100000
namespace Ev
open PySem PySem.Spec L2
open PyProof.Rows hiding St
noncomputable section
inductive Sti where
  | pl (i : Nat) | ci (i : Int) | cs (x : Str)
def Sti.te : Sti → TE
  | .pl i => tVar i
  | .ci i => tC (.int i)
  | .cs x => tC (.str x)
def Sti.ok (ρ : Env) : Sti → Bool
  | .pl i => (match ρ[i]? with
    | some (some _) => true
    | _ => false)
  | _ => true
def Sti.arg : Sti → Arg
  | .pl i => .pl i
  | .ci i => .sh (.int i)
  | .cs x => .sh (.str x)
section
variable {K : Kx} {W : WX} {al : Addr → Prop} {own own' own1 : Own} {ρ ρ' ρ1 : Env} {σ : L2.St} {H H' H1 : Hp} {X : Cx} {pos p : Pos} {f : Ev} {k lv : Nat} {ps : List Str} {F : FnV} {x : Str} {a : Addr} {v : V} {d : PyData} {n : Nat} {pre post : List Sti}
theorem SlOk.to {al al' : Addr → Prop} {i : Nat} {s : Sl} {v : V} (h : SlOk K H al own i s v) (hz : ∀ b, Zf al own b → Zf al' own' b) (ho : own' i = own i) (ha : ∀ b, al b → al' b) : SlOk K H al' own' i s v := by
  cases s with
  | sh d => obtain ⟨as, r, z⟩ := h; exact ⟨as, r, fun b hb => hz b (z b hb)⟩
  | ow d => obtain ⟨x, e, o, z⟩ := h; exact ⟨x, ho.trans e, o.mono hz, ha x z⟩
  | io d => obtain ⟨x, e, o⟩ := h; exact ⟨x, ho.trans e, o.mono hz⟩
  | lk d => obtain ⟨x, e, o⟩ := h; exact ⟨x, ho.trans e, o.mono hz⟩
  | ex x c => exact h
end
end
end Ev
set_option Elab.async false
set_option linter.all false
set_option autoImplicit false
set_option maxRecDepth 100000
namespace Ev
open PySem PySem.Spec L2
theorem tabsI_no {K : Kx} {H : Hp} (hT : theT K.fr = none) (hO : Only H) : TabsI K H where
  t := fun P h => by rw [hT] at h; cases h
  m := memI_none fun i C dx fs z => by
    rcases hO i with q | q
    · rw [q] at z; cases z
    · obtain ⟨_, _, q⟩ := q
      rw [q] at z; cases z
end Ev
set_option Elab.async false
set_option linter.all false
set_option autoImplicit false
set_option maxRecDepth 100000
namespace Ev
open PySem PySem.Spec L2
open PyProof.Rows hiding St
noncomputable section
section
variable {K : Kx} {W : WX} {σ : L2.St} {H : Hp} {X : Cx} {pos : Pos} {o e : Expr} {oo oe : Opd}
end
end
end Ev
set_option Elab.async false
set_option linter.all false
set_option autoImplicit false
set_option maxRecDepth 100000
namespace Ev
open PySem PySem.Spec L2
open PyProof.Rows hiding St
noncomputable section
section
variable {K : Kx} {W : WX} {σ : L2.St} {H : Hp} {X : Cx} {pos p : Pos} {body : List Stmt} {fb : EvS} {tbl : Str → Str → Option Bool} {T n y : Str} {i j : Nat} {e : Expr} {o : Opd}
/-- an error of the class c, kept -/
def errD (c : Str) : PyData := .dict [(.bool true, .str c)]
theorem rp_err {K : Kx} {H : Hp} {a : Addr} {c : Str} (h : H a = some (ErO (.ref (He.ga K.fr c)) a)) : Rp K H (.ref a) (errD c) [a] :=
  .dic (.inl h) (.e c) (.cons (.bl true) (.str c) .nil) fun _ _ _ z => nomatch z
end
end
end Ev
set_option Elab.async false
set_option linter.all false
set_option autoImplicit false
set_option maxRecDepth 100000
namespace Ev
open PySem PySem.Spec L2
open PyProof.Rows hiding St
noncomputable section
open PySem.Froz (SD sObj addTx tailTx TxOk)
/-- the table can be walked in its own order -/
def Wkb (w : World) (t : SetTable) : Prop := Ris t.place.toList ∧ (w.params.followText "set-order" = true ∨ t.led = true)
/-- at a: a set of the texts l, none twice -/
def SetX (P : Program) (w : World) (h : Heap) (a : Addr) (l : List Str) : Prop :=
  ∃ D : SD, h.get? a = some (sObj "set" D) ∧ TxOk P w D l ∧ l.Nodup ∧ l.length < scanBound ∧ Wkb w D.2.2
def insX (k : Str) (l : List Str) : List Str := if k ∈ l then l else k :: l
section
variable {P : Program} {w : World} {A : Around} {E : Value → Shared → Prop} {s : Shared} {a : Addr} {l : List Str} {k : Str} {u : Tok}
end
/-- as a tracked thing -/
def SetXO (P : Program) (w : World) (a : Addr) (l : List Str) : HO := .ext fun h => SetX P w h a l
section
variable {X : Cx} {pins : List (Addr × Obj)} {σ : L2.St} {H : Hp} {s : Shared} {E : Value → Shared → Prop}
end
end
end Ev
set_option Elab.async false
set_option linter.all false
set_option autoImplicit false
set_option maxRecDepth 100000
namespace Ev
open PySem PySem.Spec L2
open PyProof.Rows hiding St
noncomputable section
section
variable {prog : Program} {w : World} {A : Around} {s : Shared} {R : Result → Shared → Prop}
abbrev noX : Value → Shared → Prop := fun _ _ => False
end
section
variable {Y : Cx}
end
section
variable {X : Cx}
end
end
end Ev
set_option Elab.async false
set_option linter.all false
set_option autoImplicit false
set_option maxRecDepth 100000
namespace Ev
open PySem PySem.Spec L2
open PyProof.Rows hiding St
noncomputable section
section
variable {K : Kx} {W : WX} {al al' : Addr → Prop} {own own' own1 own0 own2 : Own} {ρ ρ' ρ1 ρ0 ρ2 : Env} {σ σ1 σ' : St} {H H' H1 H0 H2 : Hp} {X : Cx} {pos : Pos} {vs : List Nat} {D : Addr}
theorem insX_few {k : Str} {l : List Str} (h : l.length + 1 < 64) : (insX k l).length < 64 := by
  unfold insX
  split
  · omega
  · exact h
/-- the set so far, at D -/
structure InX (K : Kx) (al : Addr → Prop) (D : Addr) (σ : St) (H : Hp) (own : Own) (ρ : Env) (l : List Str) : Prop where
  pre : Pre K (fun b => al b ∧ b ≠ D) own ρ σ H
  free : Free own D
  set : H D = some (SetXO K.P K.w D l)
  few : l.length < 64
theorem InX.there {l : List Str} (i : InX K al D σ H own ρ l) : H D ≠ none := by
  rw [i.set]
  exact fun z => nomatch z
theorem InX.wipe {l : List Str} (i : InX K al D σ H own ρ l) (vs : List Nat) : InX K al D (wipe σ vs) H own (wipeE ρ vs) l := ⟨i.pre.wipe vs, i.free, i.set, i.few⟩
theorem InX.grow {l : List Str} (i : InX K al D σ H own ρ l) (g : Grow H H') : InX K al D σ H' own ρ l := ⟨i.pre.grow g, i.free, g.1 _ _ i.set, i.few⟩
theorem InX.step {l : List Str} (i : InX K al D σ H own ρ l) (p : Pre K (fun b => al b ∧ b ≠ D) own' ρ' σ' H') (s : Stp own ρ H own' ρ' H') : InX K al D σ' H' own' ρ' l :=
  ⟨p, Free.after i.free i.there s, s.keep D _ i.set i.free.wr trivial, i.few⟩
theorem InX.put {l : List Str} (i : InX K al D σ H own ρ l) (k : Str) (h : l.length + 1 < 64) : InX K al D σ (upd H D (SetXO K.P K.w D (insX k l))) own ρ (insX k l) :=
  ⟨i.pre.out i.set trivial (fun z => z.2 rfl) i.free, i.free, upd_same, insX_few h⟩
variable {elt tg iter tg1 iter1 : Expr} {ifs ifs1 : List Expr} {scope : Scope} {blk : List (Str × Nat)} {t t1 : Tg} {tt tt1 : Tv} {f1 te : Ev} {vs1 : List Nat} {os : List Opd} {mk : List PyData → Option (List PyData)}
end
end
end Ev
set_option Elab.async false
set_option linter.all false
set_option autoImplicit false
set_option maxRecDepth 100000
namespace Ev
open PySem PySem.Spec L2
open PyProof.Rows hiding St
noncomputable section
section
variable {K : Kx} {H : Hp} {X : Cx} {W : WX}
end
end
end Ev
set_option Elab.async false
set_option linter.all false
set_option autoImplicit false
set_option maxRecDepth 100000
namespace Ev
open PySem PySem.Spec L2
open PyProof.Rows hiding St
noncomputable section
section
variable {K : Kx} {W : WX} {σ : L2.St} {H H' : Hp} {X : Cx} {pos : Pos}
end
end
end Ev
set_option Elab.async false
set_option linter.all false
set_option autoImplicit false
set_option maxRecDepth 100000
namespace Ev
open PySem PySem.Spec L2
open PyProof.Rows hiding St
noncomputable section
section
variable {K : Kx} {H : Hp} {X : Cx} {W : WX}
end
end
end Ev
set_option Elab.async false
set_option linter.all false
set_option autoImplicit false
set_option maxRecDepth 100000
namespace Ev
open PySem PySem.Spec L2
open PyProof.Rows hiding St
noncomputable section
section
variable {K : Kx} {W : WX} {X : Cx} {pos : Pos} {a b : Expr} {oa ob : Opd}
end
end
end Ev
set_option Elab.async false
set_option linter.all false
set_option autoImplicit false
set_option maxRecDepth 100000
namespace Ev
open PySem PySem.Spec L2
open PyProof.Rows hiding St
noncomputable section
section
variable {K : Kx} {W : WX} {X : Cx} {pos : Pos}
end
end
end Ev
set_option Elab.async false
set_option linter.all false
set_option autoImplicit false
set_option maxRecDepth 100000
namespace Ev
open PySem PySem.Spec L2
open PyProof.Rows hiding St
noncomputable section
section
variable {K : Kx} {W : WX} {al : Addr → Prop} {own own' own1 : Own} {ρ ρ' ρ1 : Env} {σ : L2.St} {H H' H1 : Hp} {X : Cx} {pos p : Pos} {k lv : Nat} {ps : List Str} {F : FnV} {x : Str} {n : Nat} {os : List Opd}
end
end
end Ev
set_option Elab.async false
set_option linter.all false
set_option autoImplicit false
set_option maxRecDepth 100000
namespace Ev
open PySem PySem.Spec L2
open PyProof.Rows hiding St
noncomputable section
section
variable {A : Around} {s : Shared}
open SeqAt MeetsSeq
end
section
variable {K : Kx} {W : WX} {σ : L2.St} {H : Hp} {X : Cx} {pos : Pos} {a b : Expr} {oa ob : Opd} {pins : List (Addr × Obj)} {s : Shared}
open SeqAt
def nonS : PyData → Bool
  | .str _ => false
  | .dict (_ :: _) => false
  | _ => true
def eqA (f : PyData → PyData → Option Res) (c : Bool) (d e : PyData) : Option Res := match e with
  | .str z => if nonS d = true then some (.sh (.bool c)) else f d (.str z)
  | .tuple [] => (match d with
    | .tuple ds => some (.sh (.bool (xor c ds.isEmpty)))
    | d => f d (.tuple []))
  | e => f d e
end
end
end Ev
set_option Elab.async false
set_option linter.all false
set_option autoImplicit false
set_option maxRecDepth 100000
namespace Ev
open PySem PySem.Spec L2
open PyProof.Rows hiding St
noncomputable section
section
variable {K : Kx} {W : WX} {σ : L2.St} {H H' : Hp} {X : Cx} {pos : Pos}
end
end
end Ev
set_option Elab.async false
set_option linter.all false
set_option autoImplicit false
set_option maxRecDepth 100000
namespace Ev
open PySem PySem.Spec L2
open PyProof.Rows hiding St
noncomputable section
section
variable {K : Kx} {W : WX} {σ : L2.St} {H : Hp} {X : Cx} {pos : Pos} {o e : Expr} {oo oe : Opd} {pins : List (Addr × Obj)} {s : Shared}
end
end
end Ev
set_option Elab.async false
set_option linter.all false
set_option autoImplicit false
set_option maxRecDepth 100000
namespace Ev
open PySem PySem.Spec L2
open PyProof.Rows hiding St
section
variable {prog : Program} {w : World} {A : Around} {E : Value → Shared → Prop} {s : Shared}
end
noncomputable section
section
variable {K : Kx} {W : WX} {H : Hp} {X : Cx} {a : Expr} {oa : Opd} {p p2 pos pos2 : Pos}
end
section
variable {K : Kx} {W : WX} {H : Hp} {X : Cx} {pos : Pos}
end
end
end Ev
set_option Elab.async false
set_option linter.all false
set_option autoImplicit false
set_option maxRecDepth 100000
set_option maxHeartbeats 1000000
namespace Zm
open PySem
section
variable {P : Program} {W : World} {A : Around} {E : Value → Shared → Prop} {s : Shared}
end
section
variable {P : Program} {W : World} {A : Around} {E : Value → Shared → Prop} {s : Shared}
end
end Zm
namespace Ev
open PySem PySem.Spec L2
open PyProof.Rows hiding St
noncomputable section
section
variable {K : Kx} {W : WX} {X : Cx} {a b : Expr} {o o2 : Opd} {p pos : Pos}
end
end
end Ev
set_option Elab.async false
set_option linter.all false
set_option autoImplicit false
set_option maxRecDepth 100000
namespace Ev
open PySem PySem.Spec L2
open PyProof.Rows hiding St
noncomputable section
section
variable {K : Kx} {W : WX} {H : Hp} {X : Cx} {o e f : Expr} {oo oa ob : Opd} {apos pos : Pos}
end
section
variable {K : Kx} {W : WX} {al : Addr → Prop} {own own' : Own} {ρ ρ' : Env} {σ : St} {H H' : Hp} {X : Cx} {pos p : Pos} {e : Expr} {es : List Expr} {f : Ev} {fs : List (Bool × Ev)}
end
end
end Ev
set_option Elab.async false
set_option linter.all false
set_option autoImplicit false
set_option maxRecDepth 100000
namespace Ev
open PySem PySem.Spec L2
open PyProof.Rows hiding St
noncomputable section
section
variable {K : Kx} {W : WX} {al : Addr → Prop} {own own' : Own} {ρ ρ' : Env} {σ : L2.St} {H H' : Hp} {X : Cx} {pos : Pos} {f : Ev}
end
end
end Ev
set_option Elab.async false
set_option linter.all false
set_option autoImplicit false
set_option maxRecDepth 100000
namespace Ev
open PySem PySem.Spec L2
open PyProof.Rows hiding St
noncomputable section
section
variable {X : Cx} {pins : List (Addr × Obj)} {σ : L2.St} {H : Hp} {s : Shared} {a o : Addr} {A : Around} {E : Value → Shared → Prop}
end
section
variable {K : Kx} {W : WX} {X : Cx} {pos apos : Pos} {o e : Expr} {i : Nat} {fe : Ev} {H : Hp}
end
end
end Ev
set_option Elab.async false
set_option linter.all false
set_option autoImplicit false
set_option maxRecDepth 100000
namespace Ev
open PySem PySem.Spec L2
open PyProof.Rows hiding St
noncomputable section
section
variable {K : Kx} {H : Hp} {X : Cx} {W : WX}
end
end
end Ev
set_option Elab.async false
set_option linter.all false
set_option autoImplicit false
set_option maxRecDepth 100000
namespace Ev
open PySem PySem.Spec L2
open PyProof.Rows hiding St
noncomputable section
section
variable {K : Kx} {W : WX} {al : Addr → Prop} {own own' : Own} {ρ ρ' : Env} {σ : L2.St} {H : Hp} {X : Cx} {pos : Pos}
end
end
end Ev
set_option Elab.async false
set_option linter.all false
set_option autoImplicit false
set_option maxRecDepth 100000
namespace Ev
open PySem PySem.Spec L2
open PyProof.Rows hiding St
noncomputable section
section
variable {K : Kx} {H : Hp} {X : Cx} {W : WX}
section
variable {prog : Program} {w : World} {A : Around} {E : Value → Shared → Prop} {s : Shared}
end
end
end
end Ev
set_option Elab.async false
set_option linter.all false
set_option autoImplicit false
set_option maxRecDepth 100000
namespace Ev
open PySem PySem.Spec L2
open PyProof.Rows hiding St
noncomputable section
section
variable {K : Kx} {W : WX} {X : Cx} {pos : Pos} {a b : Expr} {oa ob : Opd}
end
end
end Ev
set_option Elab.async false
set_option linter.all false
set_option autoImplicit false
set_option maxRecDepth 100000
namespace Ev
open PySem PySem.Spec L2
open PyProof.Rows hiding St
noncomputable section
section
variable {K : Kx} {X : Cx}
end
end
end Ev
set_option Elab.async false
set_option linter.all false
set_option autoImplicit false
set_option maxRecDepth 100000
namespace Ev
open PySem PySem.Spec L2
open PyProof.Rows hiding St
noncomputable section
section
variable {K : Kx} {H : Hp} {X : Cx} {W : WX} {pins : List (Addr × Obj)} {σ : L2.St} {s : Shared}
end
end
end Ev
set_option Elab.async false
set_option linter.all false
set_option autoImplicit false
set_option maxRecDepth 100000
namespace Ev
open PySem PySem.Spec L2
open PyProof.Rows hiding St
noncomputable section
section
variable {K : Kx} {W : WX} {σ : L2.St} {H : Hp} {X : Cx} {pos : Pos} {o e : Expr} {oo oe : Opd}
end
end
end Ev
set_option Elab.async false
set_option linter.all false
set_option autoImplicit false
set_option maxRecDepth 100000
set_option maxHeartbeats 2000000
namespace PySem
namespace BR
open PySem.W PySem.Calls PyProof.Rows PySem.HandSPX
def iA (p1 p2 p3 : Pos) : Arguments := { posonlyargs := [], args := [{ arg := "self", annotation := none, pos := p1 }, { arg := "row", annotation := none, pos := p2 }, { arg := "word", annotation := none, pos := p3 }], vararg := none, kwonlyargs := [], kw_defaults := [], kwarg := none, defaults := [] }
def iB (m : Str) (k : Nat) (q1 q2 q3 q4 q5 q6 r1 r2 r3 r4 t1 t2 t3 t4 : Pos) : List Stmt :=
  [.Expr (.Call (.Attribute (.Call (.Name "super" q1) [] [] q2) "__init__" q3) [.Constant (.str m) k q4] [] q5) q6,
   .Assign [.Attribute (.Name "self" r1) "row" r2] (.Name "row" r3) r4, .Assign [.Attribute (.Name "self" t1) "word" t2] (.Name "word" t3) t4]
def iS : Scope := { kind := .function, names := [(PySem.Str.ofString "self", .local), (PySem.Str.ofString "row", .local), (PySem.Str.ofString "word", .local), (PySem.Str.ofString "__class__", .free), (PySem.Str.ofString "super", .globalImplicit)], isGenerator := false, isCoroutine := false, more := [] }
/-- what the written part says of the class at C, of its __init__ at fI -/
structure Txt (P : Program) (K : Frag) (C fI : Addr) : Prop where
  cls : ∃ nm q N bs bm sn sub ab col dd k0 k1 k2 k3 k5, K.lookup C = some (excClassObj nm q C N bs bm true sn sub ab col dd k0 k1 k2 k3 k5 "ValueError.__new__") ∧ refsVE bm = true
  sa : findIn K (.ref C) "__setattr__" = some (some (.builtin "object.__setattr__"))
  ga : findIn K (.ref C) "__getattribute__" = some (some (.builtin "BaseException.__getattribute__"))
  gg : findIn K (.ref C) "__getattr__" = some none
  noR : findIn K (.ref C) "row" = some none
  noW : findIn K (.ref C) "word" = some none
  iC : findIn K (.ref C) "__init__" = some (some (.ref fI))
  tC : typeIn K (.ref fI) = some (.type "function")
  kC : keepIn K (.ref C) = true
  exC : subIn K (.ref C) (.type "BaseException") = some true
  veC : subIn K (.ref C) (.type "ValueError") = some true
  tyC : typeIn K (.ref C) = some (.type "type")
  hdC : hasDictIn K C = true
  su : ks_superIn K C C "__init__" = some (some (.builtin "ValueError.__init__"))
  me : mroIn K C (.ref C) = some true
  glo : nsIn K mainGlobals "super" = some none
  any : nsIn K cStatics "thirdparty.any" = some none
  top : (P.main.scope.names.lookup ("super" : Str)).isSome = false
  fn : ∃ (oc : Value) (od : Option Addr) (doc pm : Value) (an : Option Addr) (cda cc : Addr) (ct : Value) (osl : Array (Option Value)) (p1 p2 p3 : Pos) (m : Str) (k : Nat) (q1 q2 q3 q4 q5 q6 r1 r2 r3 r4 t1 t2 t3 t4 : Pos) (ccl : Value) (cdd : Option Addr) (vs : Array Value) (ccs : Array (Option Value)) (file : Str) (tf : Tok) (cl : Value) (cld : Option Addr) (csl : Array (Option Value)),
    K.lookup fI = some ⟨oc, od, .func (ksFn "__init__" "BadRows.__init__" (iA p1 p2 p3) (iB m k q1 q2 q3 q4 q5 q6 r1 r2 r3 r4 t1 t2 t3 t4) iS .none .none doc pm an (.ref cda) ct cc), osl⟩ ∧ codeIn K (.ref cda) "BadRows.__init__" = true ∧
    (q3.endLine == q5.line) = true ∧ K.lookup cda = some ⟨ccl, cdd, .fields vs, ccs⟩ ∧ vs[2]? = some (.str file tf) ∧ ((P.main.file : Str) == file) = true ∧ K.lookup cc = some ⟨cl, cld, .cell (some (.ref C)), csl⟩
/-- what __init__ leaves of a fresh exception at x -/
structure InitEnd (h h' : Heap) (x C dx t1 : Addr) (u v : Value) : Prop where
  keep : ∀ b o, b ≠ x → h.get? b = some o → h'.get? b = some o
  obj : h'.get? x = some { cls := .ref C, dict := some dx, data := .fields #[.ref t1, .none, .none, .none, .bool false, .none] }
  dbig : h.objs.size ≤ dx
  dne : dx ≠ x
  ns : h'.Ns1 dx (fun y => if y = "word" then some v else if y = "row" then some u else none)
section
variable {prog : Program} {w : World} {A : Around} {E : Value → Shared → Prop} {R : Result → Shared → Prop} {s : Shared} {K : Frag} {mg : Str → Option Value} {C fI : Addr}
/-- the built-in __init__, bound, is called -/
theorem call_mw {u x t0 : Addr} {rest : List Value} {Q : Value → Shared → Prop} (T : Txt prog K C fI) (X : K.In s.heap) (hu : s.heap.get? u = some (kxs_mw "ValueError.__init__" x)) (hx : s.heap.get? x = some (excO C t0)) (hz : rest.length ≤ sizeLine)
    (q : ∀ h' t', (∀ b o, b ≠ x → s.heap.get? b = some o → h'.get? b = some o) → h'.get? x = some (excO C t') → Q .none { s with heap := h' }) : wpAny (model prog w) A (call (.ref u) rest) Q E s := by
  obtain ⟨nm, qn, N, bs, bm, sn, sub, ab, col, dd, k0, k1, k2, k3, k5, hC, hbm⟩ := T.cls
  have FB := F.excBase_ValueError
  obtain ⟨h, g, d, t, os⟩ := s
  refine wpAny_call (codeAny_of_tree ?_)
  show wpAny _ A.in1 (callAny (.ref u) ⟨rest, []⟩) _ _ _
  simp only [callAny]
  refine wpAny_bind (wpAny_load hu ?_)
  simp only [kxs_mw, show (Value.type "method-wrapper" == Value.type "method" || Value.type "method-wrapper" == Value.type "builtin_function_or_method" || Value.type "method-wrapper" == Value.type "method-wrapper") = true by decide, if_true]
  refine KFB.if_so (by decide) ?_
  refine wpAny_bind (check_bound_init FB.toExcCallFacts (X _ _ hC) hx rfl ?_)
  refine wpAny_bind (wpAny_pure (wpAny_pure ?_))
  refine ⟨plainId_quiet FB.init.plain _, codeAny_builtin FB.initEntry ?_⟩
  exact exc_init_tree (cls := .ref C) (t0 := t0) (dv := none) (c2 := .none) (c3 := .none) (b4 := .bool false) hx hz fun h' k e _ => q h' _ k e
theorem init_run (T : Txt prog K C fI) {x t0 : Addr} {u v : Value} {args : Args} (ha : args = ⟨[.ref x, u, v], []⟩ ∨ args = ⟨[.ref x], [(("word" : Str), v), (("row" : Str), u)]⟩) (X : K.In s.heap) (G : s.heap.Ns mainGlobals mg) (hmg : mg "super" = none) (B : ∃ mb, s.heap.Ns builtinsNs mb ∧ ∀ y : Str, y ≠ "__name__" → mb y = bootBuiltins y) (hlim : s.heap.NoLimit)
    (hx : s.heap.get? x = some (excO C t0)) (hnx : K.lookup x = none) (hroom : A.depth < recursionLimit)
    (hq : ∀ h' tk dx t1, InitEnd s.heap h' x C dx t1 u v → R (.ok (.ret .none)) { s with heap := h', toks := tk }) :
    codeAny (model prog w) A (.call (.ref fI) args) R s := by
  obtain ⟨oc, od, doc, pm, an, cda, cc, ct, osl, p1, p2, p3, m, k, q1, q2, q3, q4, q5, q6, r1, r2, r3, r4, t1, t2, t3, t4, ccl, cdd, vs, ccs, file, tf, cl, cld, csl, ho, hcd, hline, hco, hvs, hfile, hcell⟩ := T.fn
  obtain ⟨nm, q, N, bs, bm, sn, sub, ab, col, dd, k0, k1, k2, k3, k5, hC, hbm⟩ := T.cls
  have hcl : clsIn K C = some { name := nm, bases := bs, mro := .ref C :: bm, ns := N, qualname := q, hasDict := true, slotNames := sn, subclasses := sub, abstract := ab, collection := col, hasDel := false } := by unfold clsIn; rw [hC] <;> rfl
  obtain ⟨mb, hb, hbx⟩ := B
  have xC : x ≠ C := fun z => by rw [z, hC] at hnx; cases hnx
  refine ks_codeAny_call_defAt (fd := ksFn "__init__" "BadRows.__init__" (iA p1 p2 p3) (iB m k q1 q2 q3 q4 q5 q6 r1 r2 r3 r4 t1 t2 t3 t4) iS .none .none doc pm an (.ref cda) ct cc) (body := iB m k q1 q2 q3 q4 q5 q6 r1 r2 r3 r4 t1 t2 t3 t4) (binds := [("self", .ref x), ("row", u), ("word", v)]) hroom (X _ _ ho) rfl hlim (codeRec_of X hcd) rfl
    (BindsTo.of_eq (by rcases ha with z | z <;> (rw [z]; first | rfl | with_unfolding_all rfl | kernel_rfl))) (by show ∀ y ∈ iS.names, y.2 ≠ .cell; decide) (fun y hy => by
      rcases (by simpa using hy : y = (("self" : Str), Value.ref x) ∨ y = (("row" : Str), u) ∨ y = (("word" : Str), v)) with z | z | z <;> (rw [z]; rfl)) (fun h₁ hns kp => ?_)
  show _root_.PySem.wpAt _ (A.deeper (ksEnv "BadRows.__init__" iS s.heap.objs.size fI (.ref cda) cc)) (.func (iB m k q1 q2 q3 q4 q5 q6 r1 r2 r3 r4 t1 t2 t3 t4) (ksEnv "BadRows.__init__" iS s.heap.objs.size fI (.ref cda) cc)) (execs (iB m k q1 q2 q3 q4 q5 q6 r1 r2 r3 r4 t1 t2 t3 t4) (ksEnv "BadRows.__init__" iS s.heap.objs.size fI (.ref cda) cc)) _ _ _
  have X1 : K.In h₁ := X.keeps kp
  have hx1 := kp _ _ hx
  have xL : s.heap.objs.size ≠ x := Nat.ne_of_gt (Heap.lt_size hx)
  have he : ∀ env : Env, eval (.Call (.Attribute (.Call (.Name "super" q1) [] [] q2) "__init__" q3) [.Constant (.str m) k q4] [] q5) env = (do
      let ov ← attributeBase (.Call (.Name "super" q1) [] [] q2) "__init__" env (eval (.Call (.Name "super" q1) [] [] q2) env)
      standAt q3.atName
      let (f, first) ← holding [ov] (getMethod ov "__init__" (do return (← importBound (.Call (.Name "super" q1) [] [] q2) env).getD true))
      callWith q5 f first (backTo q5 (starEach [.Constant (.str m) k q4] env)) []) := fun env => by
    rw [arm_eval_Call]
    have hp : methodCallPos true (.Call (.Name "super" q1) [] [] q2) env q3 q5 = pure q5 := by unfold methodCallPos; simp [hline]
    unfold methodCall
    have hform : methodCallForm ([Expr.Constant (.str m) k q4].length + ([] : List Keyword).length) (backTo q5 (starEach [.Constant (.str m) k q4] env)) (backToKw q5 (keywordEach [] env)) = true := rfl
    rw [hform, hp]
    simp only [pure_bind]
    rfl
  refine ks_wpAt_execs_cons (ks_wpAt_Expr_any (ks_wpAt_MethodCall ?_ (he _)))
  refine ks_wpAt_super_base (env := ksEnv "BadRows.__init__" iS s.heap.objs.size fI (.ref cda) cc) (ar := { arg := "self", annotation := none, pos := p1 }) rfl rfl (by decide) rfl (X1 _ _ ho) rfl rfl rfl (X1 _ _ hco) rfl hvs hfile T.top ?_
  refine ks_loadName_global rfl rfl (Calls.loadGlobal_builtin (env := ksEnv "BadRows.__init__" iS s.heap.objs.size fI (.ref cda) cc) (G.keeps kp) hmg (hb.keeps kp) ((hbx _ (by decide +kernel)).trans PyProof.Rows.Boot.super) ⟨rfl, ?_⟩)
  refine wpAny_loadName_free rfl rfl rfl ⟨_, X1 _ _ hcell, rfl⟩ ?_
  refine wpAny_loadName_local rfl rfl hns (by first | rfl | with_unfolding_all rfl | kernel_rfl) ?_
  refine ks_wpAny_isType_cls (X1 _ _ hC) rfl ⟨rfl, ?_⟩
  refine ks_wpAny_call_super (X1 _ _ hC) rfl hx1 rfl (fun _ z => nomatch z) (looks_mroIn X1 T.me) (fun h2 e2 kp2 => ?_)
  have X2 : K.In h2 := X1.keeps kp2
  have hx2 := kp2 _ _ hx1
  have I2 : InstAt h2 x (excO C t0) C none := ⟨hx2, rfl, rfl, trivial⟩
  refine kxs_getMethod kxs_ValueError e2 (looks_opaque X2 T.any) (l₀ := .ref C :: bm) (fun A Q E s k q => wpAny_bind ((looks_clsIn X2 hcl) A _ E s k (wpAny_pure q))) rfl X2 ?_ (I2.type.andThen (looks_subIn X2 T.veC)) xC (by decide) ?_
  · have z := T.su
    unfold ks_superIn at z
    rw [hcl] at z
    exact z
  have kp3 : ∀ b o, h2.get? b = some o → (h2.push (kxs_mw "ValueError.__init__" x)).get? b = some o := fun b o e => Heap.get?_push_of_some _ e
  have hu3 : (h2.push (kxs_mw "ValueError.__init__" x)).get? h2.objs.size = some (kxs_mw "ValueError.__init__" x) := Heap.get?_push_at rfl rfl
  refine kxs_callWith (i := "ValueError.__init__") (x := x) (by rfl) ?_
  refine Calls.evalArgs_plain (Calls.spliced_cons (Calls.Constant_str (k := k) (pos := q4) (Calls.spliced_nil ⟨hu3, ?_⟩)))
  refine call_mw T (X2.keeps kp3) hu3 (kp3 _ _ hx2) (by rw [sizeLine_eq]; show 1 ≤ 16777216; omega) fun h4 t5 kp4 hx4 => ?_
  have old : ∀ b o, b ≠ x → h₁.get? b = some o → h4.get? b = some o := fun b o n e => kp4 b o n (kp3 b o (kp2 b o e))
  have X4 : K.In h4 := fun a o e => old a o (fun z => by rw [z, hnx] at e; cases e) (X1 a o e)
  have hn4 : h4.Ns s.heap.objs.size _ := hns.at fun o e => old _ o xL e
  refine wpAt_of_wpAny (wpAny_execs_cons (plainObj_wpAny_Assign_Attribute ?_))
  refine wpAny_Name (wpAny_loadName_local rfl rfl hn4 (v := u) (by first | rfl | with_unfolding_all rfl | kernel_rfl) ?_) (by decide)
  refine wpAny_Name (wpAny_loadName_local rfl rfl hn4 (v := .ref x) (by first | rfl | with_unfolding_all rfl | kernel_rfl) ?_) (by decide)
  refine set_plain X4 (ox := excO C t5) (od := none) ⟨hx4, rfl, rfl, trivial⟩ T.sa ?_
  refine exc_osa X4 hx4 hcl (show refsVE (.ref C :: bm) = true from hbm) rfl T.noR (fun h5 tk5 dx k5 dn dne hx5 hn5 => ?_)
  have z4 : s.heap.objs.size < h4.objs.size := hn4.lt
  have X5 : K.In h5 := fun a o e => k5 a o (fun z => by rw [z, hnx] at e; cases e) (X4 a o e)
  have hn6 : h5.Ns s.heap.objs.size _ := hn4.at fun o e => k5 _ o xL e
  refine wpAny_execs_cons (plainObj_wpAny_Assign_Attribute ?_)
  refine wpAny_Name (wpAny_loadName_local rfl rfl hn6 (v := v) (by first | rfl | with_unfolding_all rfl | kernel_rfl) ?_) (by decide)
  refine wpAny_Name (wpAny_loadName_local rfl rfl hn6 (v := .ref x) (by first | rfl | with_unfolding_all rfl | kernel_rfl) ?_) (by decide)
  obtain ⟨oD, _, _, hoD, _, _⟩ := hn5.count (ns := [("row" : Str)]) (fun y hy => by
    by_cases c : y = "row"
    · rw [c]; exact List.mem_cons_self
    · exact absurd (if_neg c) hy)
  refine set_plain X5 (ox := { cls := .ref C, dict := some dx, data := .fields #[.ref t5, .none, .none, .none, .bool false, .none] }) (od := some oD) ⟨hx5, rfl, rfl, hoD⟩ T.sa ?_
  refine PySem.OEX.osa_old X5 hx5 hn5 (nl := [("row" : Str)]) (fun y hy => by
    by_cases c : y = "row"
    · rw [c]; exact List.mem_cons_self
    · exact absurd (if_neg c) hy) (by decide) hcl (show refsVE (.ref C :: bm) = true from hbm) rfl T.noW (fun h7 tk7 k7 hn7 => ?_)
  have z : s.heap.objs.size ≤ dx := Nat.le_of_lt (Nat.lt_of_lt_of_le z4 dn)
  refine wpAny_execs_nil (hq h7 tk7 dx t5 ⟨fun b o hb e => ?_, ?_, z, dne, hn7⟩)
  · refine k7 b o (fun zz => ?_) (k5 b o hb (old b o hb (kp b o e)))
    have := Heap.lt_size e
    rw [zz] at this
    exact absurd this (Nat.not_lt_of_le z)
  · exact k7 x _ (Ne.symm dne) hx5
/-- a made one -/
structure OwnMade (h h' : Heap) (e C d : Addr) (u v : Value) : Prop where
  keep : ∀ b o, h.get? b = some o → h'.get? b = some o
  new : h.objs.size ≤ e
  obj : ∃ t1 : Addr, h'.get? e = some ({ cls := .ref C, dict := some d, data := .fields #[.ref t1, .none, .none, .none, .bool false, .none] } : Obj)
  dbig : h.objs.size ≤ d
  dne : d ≠ e
  ns : h'.Ns1 d (fun y => if y = "word" then some v else if y = "row" then some u else none)
theorem made_pos (T : Txt prog K C fI) {u v : Value} (X : K.In s.heap) (G : s.heap.Ns mainGlobals mg) (hmg : mg "super" = none) (B : ∃ mb, s.heap.Ns builtinsNs mb ∧ ∀ y : Str, y ≠ "__name__" → mb y = bootBuiltins y) (hlim : s.heap.NoLimit) (hroom : A.depth + 1 < recursionLimit)
    (hq : ∀ h' tk e d, OwnMade s.heap h' e C d u v → R (.ok (.ret (.ref e))) { s with heap := h', toks := tk }) :
    codeAny (model prog w) A (.call (.ref C) ⟨[u, v], []⟩) R s := by
  obtain ⟨nm, q, N, bs, bm, sn, sub, ab, col, dd, k0, k1, k2, k3, k5, hC, hbm⟩ := T.cls
  obtain ⟨hp, g, dr, tk, os⟩ := s
  have k : ∀ b o, hp.get? b = some o → ((hp.push (kdv_tup [u, v])).push (excO C hp.objs.size)).get? b = some o := fun b o e => Heap.get?_push_of_some _ (Heap.get?_push_of_some _ e)
  have hget : ((hp.push (kdv_tup [u, v])).push (excO C hp.objs.size)).get? (hp.objs.size + 1) = some (excO C hp.objs.size) := by heap_get
  have hnx : K.lookup (hp.objs.size + 1) = none := by
    cases e : K.lookup (hp.objs.size + 1) with
    | none => rfl
    | some o =>
      have z : hp.get? (hp.objs.size + 1) = some o := X _ _ e
      exact absurd (Nat.lt_of_succ_lt (Heap.lt_size z)) (Nat.lt_irrefl _)
  obtain ⟨mb, b1, b2⟩ := B
  refine call_own F.excBase_ValueError (fun X => refsVE_contains X bm hbm) (X _ _ hC) (looks_findIn X T.iC) (fun self => bind_fn X self T.tC) (by rw [sizeLine_eq]; show 2 ≤ 16777216; omega) ?_
  refine init_run (s := ⟨(hp.push (kdv_tup [u, v])).push (excO C hp.objs.size), g, dr, tk, os⟩) (u := u) (v := v) (mg := mg) T (.inl rfl) (X.keeps k) (G.keeps k) hmg ⟨mb, b1.keeps k, b2⟩ (hlim.keeps k) hget hnx ?_ fun h' tk' dx t1 ⟨k', hx, dn, dne, hns⟩ => ?_
  · show A.depth + 1 < recursionLimit
    exact hroom
  · have old : ∀ b o, hp.get? b = some o → h'.get? b = some o := fun b o e => k' b o (Nat.ne_of_lt (Nat.lt_succ_of_lt (Heap.lt_size e))) (k b o e)
    have z : hp.objs.size + 1 + 1 ≤ dx := by
      first
        | (simpa only [Heap.size_push] using dn)
        | exact dn
        | (have q := dn; rw [Heap.size_push, Heap.size_push] at q; exact q)
    exact ⟨rfl, hq h' tk' (hp.objs.size + 1) dx ⟨old, Nat.le_succ _, ⟨t1, hx⟩, Nat.le_trans (Nat.le_trans (Nat.le_succ _) (Nat.le_succ _)) z, dne, hns⟩⟩
section
variable {h : Heap} {g : Array GenState} {d : Drawn} {t : Nat} {os : OsState} {nm q : Str} {N : Addr} {bs bm bmB : List Value} {hdct : Bool} {sn : List Str} {sub : List Value} {ab : Bool} {col : Option Bool} {dd : Option Addr} {k0 k1 k2 k3 k5 : Option Value} {Bn newId initId : String} {u v : Value}
abbrev kwA (a : List Value) (u v : Value) : Args := ⟨a, [(("word" : Str), v), (("row" : Str), u)]⟩
theorem checkKw {M : Model} (F : ExcBaseFacts Bn newId initId bmB) (hT : ∀ X : String, bm.contains (.type X) = bmB.contains (.type X)) {Q : Unit → Shared → Prop}
    (hC : h.get? C = some (excClassObj nm q C N bs bm hdct sn sub ab col dd k0 k1 k2 k3 k5 newId)) (hq : Q () ⟨h, g, d, t, os⟩) : wpAny M A (checkBuiltinCall newId (kwA [.ref C] u v)) Q E ⟨h, g, d, t, os⟩ := by
  have hcont : (Value.ref C :: bm).contains (.type Bn) = true := by rw [List.contains_cons, hT, F.hasB, Bool.or_true]
  have hstar := F.noStar
  simp only [checkBuiltinCall, F.newKind, F.newSplit, F.newRow]
  repeat (first | refine wpAny_loadPart_at hC ?_ | (refine wpAny_isSubtype_exc hC ?_; rw [hcont]) | refine wpAny_staticBase_exc hC ?_ | refine wpAny_madeBy_exc hC ?_ | simp only [bne_self_eq_false, Bool.false_eq_true, if_false] | wp_step)
  exact hq
theorem newKw (F : ExcBaseFacts Bn newId initId bmB) (hT : ∀ X : String, bm.contains (.type X) = bmB.contains (.type X))
    (hC : h.get? C = some (excClassObj nm q C N bs bm hdct sn sub ab col dd k0 k1 k2 k3 k5 newId))
    (hq : R (.ok (.ret (.ref (h.objs.size + 1)))) ⟨(h.push { cls := .type "tuple", data := .seq ([] : List Value).toArray }).push
      { cls := .ref C, data := .fields #[.ref h.objs.size, .none, .none, .none, .bool false, .none] }, g, d, t, os⟩) :
    codeAny (model prog w) A (.builtin newId (kwA [.ref C] u v)) R ⟨h, g, d, t, os⟩ := by
  have hends := F.ends
  have hcB : (Value.ref C :: bm).contains (.type Bn) = true := by rw [List.contains_cons, hT, F.hasB, Bool.or_true]
  have hcA : (Value.ref C :: bm).contains (.type "AttributeError") = false := by rw [List.contains_cons, hT, F.noAttr]; rfl
  have hcN : (Value.ref C :: bm).contains (.type "NameError") = false := by rw [List.contains_cons, hT, F.noName]; rfl
  have hrest : ([] : List Value).length ≤ sizeLine := Nat.zero_le _
  refine codeAny_builtinAt F.entry ?_
  unfold Builtin.«BaseException.__new__»
  refine wpAt_bind ?_
  show wpAt _ _ _ (stack >>= _) _ _ _
  refine wpAt_bind (wpAt_stack fun p below => wpAt_of_wpAny ?_)
  wp_walk
  refine wpAt_of_wpAny ?_
  rw [F.owner]
  repeat (first | with_reducible refine wpAny_madeHere_exc F.canon hC ?_ | with_reducible refine wpAny_loadPart_at hC ?_ | (with_reducible refine wpAny_isSubtype_exc hC ?_; first | rw [hcB] | rw [hcA] | rw [hcN]) | wp_step)
  show R _ _
  rw [Heap.size_push]
  exact hq
theorem typeCallKw (F : ExcBaseFacts Bn newId initId bmB) (hT : ∀ X : String, bm.contains (.type X) = bmB.contains (.type X)) {fI : Addr} {Q : Fin → Shared → Prop}
    (hC : h.get? C = some (excClassObj nm q C N bs bm hdct sn sub ab col dd k0 k1 k2 k3 k5 newId))
    (hi : W.Looks (model prog w) h (typeLookup (.ref C) "__init__") (some (.ref fI))) (hb : ∀ self, W.Looks (model prog w) h (bindSpecial (.ref fI) self) (.ref fI, [self]))
    (hq : codeAny (model prog w) A (.call (.ref fI) (kwA [.ref (h.objs.size + 1)] u v))
      (fun r s' => match r with | .ok (.ret v) => v = .none ∧ Q (.done (.ret (.ref (h.objs.size + 1)))) s' | .ok _ => False | .error e => E e s')
      ⟨(h.push (W.kdv_tup [])).push (excO C h.objs.size), g, d, t, os⟩) :
    wpAny (model prog w) A (Builtin.«type.__call__» (kwA [.ref C] u v)) Q E ⟨h, g, d, t, os⟩ := by
  repeat (first | with_reducible refine wpAny_loadPart_at hC ?_ | with_reducible refine wpAny_madeBy_exc hC ?_ | wp_step)
  refine codeAny_call_builtin_code (Code.quiet_builtin _ F.quiet) (checkKw F hT hC ?_)
  refine newKw F hT hC ?_
  show wpAny _ _ _ _ _ _
  have k : ∀ b o, h.get? b = some o → ((h.push (W.kdv_tup [])).push (excO C h.objs.size)).get? b = some o := fun b o e => Heap.get?_push_of_some _ (Heap.get?_push_of_some _ e)
  have hC₁ := k _ _ hC
  have hget : ((h.push (W.kdv_tup [])).push (excO C h.objs.size)).get? (h.objs.size + 1) = some (excO C h.objs.size) := by heap_get
  have hcC : (Value.ref C :: bm).contains (.ref C) = true := by simp
  have i1 := hi.keeps k
  have b1 := (hb (.ref (h.objs.size + 1))).keeps k
  unfold isInstance
  repeat (first | with_reducible refine wpAny_loadPart_at hget ?_ | (with_reducible refine wpAny_isSubtype_exc hC₁ ?_; rw [hcC]) | wp_step)
  show wpAny _ _ (typeLookup (.ref C) _) _ _ _
  refine i1.at ?_
  refine wpAny_holding (wpAny_bind (b1.at ?_))
  refine wpAny_bind (wpAny_call (codeAny_mono hq fun r s' z => ?_))
  rcases r with e | (v | _ | _ | _) <;> first | exact z | exact z.elim | skip
  obtain ⟨rfl, z⟩ := z
  first
    | exact wpAny_pure (wpAny_pure z)
    | (wp_walk; exact z)
theorem callKw (F : ExcBaseFacts Bn newId initId bmB) (hT : ∀ X : String, bm.contains (.type X) = bmB.contains (.type X)) {fI : Addr}
    (hC : h.get? C = some (excClassObj nm q C N bs bm hdct sn sub ab col dd k0 k1 k2 k3 k5 newId))
    (hi : W.Looks (model prog w) h (typeLookup (.ref C) "__init__") (some (.ref fI))) (hb : ∀ self, W.Looks (model prog w) h (bindSpecial (.ref fI) self) (.ref fI, [self]))
    (hq : codeAny (model prog w) (A.under (.builtin "type.__call__" (kwA [.ref C] u v))) (.call (.ref fI) (kwA [.ref (h.objs.size + 1)] u v)) (W.InitBack (h.objs.size + 1) R)
      ⟨(h.push (W.kdv_tup [])).push (excO C h.objs.size), g, d, t, os⟩) :
    codeAny (model prog w) A (.call (.ref C) (kwA [] u v)) R ⟨h, g, d, t, os⟩ := by
  have f1 := tc_lookup
  have f2 := tc_bind (.ref C)
  have hTy : (⟨h, g, d, t, os⟩ : Shared).TypeIs (.ref C) "type" := ⟨_, hC, rfl⟩
  refine codeAny_of_tree ?_
  show wpAny _ _ (callAny (.ref C) _) _ _ _
  repeat (any_goals (first | assumption | with_reducible refine wpAny_loadPart_at hC ?_ | wp_step))
  refine ⟨rfl, ?_⟩
  refine codeAny_call_builtin_at (Code.quiet_builtin _ (by decide +kernel)) entry_typeCall (wpAny_check_type_call_sub hC (typeCallKw F hT hC hi hb ?_))
  refine codeAny_mono hq fun r s' z => ?_
  rcases r with e | (v | _ | _ | _) <;> exact z
end
theorem made_kw (T : Txt prog K C fI) {u v : Value} (X : K.In s.heap) (G : s.heap.Ns mainGlobals mg) (hmg : mg "super" = none) (B : ∃ mb, s.heap.Ns builtinsNs mb ∧ ∀ y : Str, y ≠ "__name__" → mb y = bootBuiltins y) (hlim : s.heap.NoLimit) (hroom : A.depth + 1 < recursionLimit)
    (hq : ∀ h' tk e d, OwnMade s.heap h' e C d u v → R (.ok (.ret (.ref e))) { s with heap := h', toks := tk }) :
    codeAny (model prog w) A (.call (.ref C) (kwA [] u v)) R s := by
  obtain ⟨nm, q, N, bs, bm, sn, sub, ab, col, dd, k0, k1, k2, k3, k5, hC, hbm⟩ := T.cls
  obtain ⟨hp, g, dr, tk, os⟩ := s
  have k : ∀ b o, hp.get? b = some o → ((hp.push (kdv_tup [])).push (excO C hp.objs.size)).get? b = some o := fun b o e => Heap.get?_push_of_some _ (Heap.get?_push_of_some _ e)
  have hget : ((hp.push (kdv_tup [])).push (excO C hp.objs.size)).get? (hp.objs.size + 1) = some (excO C hp.objs.size) := by heap_get
  have hnx : K.lookup (hp.objs.size + 1) = none := by
    cases e : K.lookup (hp.objs.size + 1) with
    | none => rfl
    | some o =>
      have z : hp.get? (hp.objs.size + 1) = some o := X _ _ e
      exact absurd (Nat.lt_of_succ_lt (Heap.lt_size z)) (Nat.lt_irrefl _)
  obtain ⟨mb, b1, b2⟩ := B
  refine callKw F.excBase_ValueError (fun X => refsVE_contains X bm hbm) (X _ _ hC) (looks_findIn X T.iC) (fun self => bind_fn X self T.tC) ?_
  refine init_run (s := ⟨(hp.push (kdv_tup [])).push (excO C hp.objs.size), g, dr, tk, os⟩) (u := u) (v := v) (mg := mg) T (.inr rfl) (X.keeps k) (G.keeps k) hmg ⟨mb, b1.keeps k, b2⟩ (hlim.keeps k) hget hnx ?_ fun h' tk' dx t1 ⟨k', hx, dn, dne, hns⟩ => ?_
  · show A.depth + 1 < recursionLimit
    exact hroom
  · have old : ∀ b o, hp.get? b = some o → h'.get? b = some o := fun b o e => k' b o (Nat.ne_of_lt (Nat.lt_succ_of_lt (Heap.lt_size e))) (k b o e)
    have z : hp.objs.size + 1 + 1 ≤ dx := by
      first
        | (simpa only [Heap.size_push] using dn)
        | exact dn
        | (have q := dn; rw [Heap.size_push, Heap.size_push] at q; exact q)
    exact ⟨rfl, hq h' tk' (hp.objs.size + 1) dx ⟨old, Nat.le_succ _, ⟨t1, hx⟩, Nat.le_trans (Nat.le_trans (Nat.le_succ _) (Nat.le_succ _)) z, dne, hns⟩⟩
end
end BR
end PySem
set_option Elab.async false
set_option linter.all false
set_option autoImplicit false
set_option maxRecDepth 100000
set_option maxHeartbeats 1000000
namespace Ev
open PySem PySem.Spec L2
open PyProof.Rows hiding St
noncomputable section
section
variable {K : Kx} {W : WX} {σ : L2.St} {H : Hp} {X : Cx} {pos p : Pos} {e a b : Expr} {o o2 : Opd} {tbl : Str → Str → Option Bool} {T c : Str}
theorem pe_exO {C : Addr} {bmB : List Value} {B newId initId : String} {x : Str} {ta : TE} (F : ExcBaseFacts B newId initId bmB) (q : PySem.W.excIn X.K C bmB newId = true) (gC : X.mg x = some (.ref C)) (kC : PySem.W.keepIn X.K (.ref C) = true) (hg : Gl X x)
    (he : PE X e ta) (hs : starEach [e] X.env = (false, eval e X.env) :: starEach [] X.env := by rfl) (hdb : (x == ("__debug__" : Str)) = false := by decide) :
    PE X (.Call (.Name x p) [e] [] pos) (fun σ H Q => ta σ H fun _ H1 => ∀ a, H1 a = none → Q (.ref a) (upd H1 a (ErO (.ref C) a))) := by
  refine ⟨fun pins s σ H Q I h => wpAny_Call_Name_kw (ld_glob I hg gC ?_ hdb)⟩
  refine PySem.W.callWith_K (h₀ := X.base) I.ok.mod.kin kC ?_ hs (by rfl)
  rw [hs]
  show wpAny _ _ (spliced ((false, eval e X.env) :: backTo pos (starEach [] X.env))) _ _ s
  refine Calls.spliced_cons (thn (he.run pins s σ H _ I h) fun u s1 ⟨v, H1, I1, _, q1⟩ => Calls.spliced_nil ⟨I1.kIn, ?_⟩)
  show wpAny _ _ (call (.ref C) [u]) _ _ _
  obtain ⟨bm, N, nm, qn, bs, hdct, sn, sub, ab, col, dd, k0, k1, k2, k3, k5, mN, hC, hN, hni, Tt⟩ := exc_obj I1.kIn q
  refine wpAny_call_exc_subT F Tt hC hN hni (fun h' a hm => ?_) (by show 1 ≤ sizeLine; rw [sizeLine_eq]; omega)
  obtain ⟨t, ht, _, _⟩ := hm.there
  exact ⟨.ref a, _, I1.laidN hm.keeps hm.new (I1.hok.gone hm.new) (erO_ok ht ⟨rfl, rfl⟩ rfl), rfl, q1 a (I1.hok.gone hm.new)⟩
def rErr (K : Kx) (c : Str) : List V → Hp → VK → Prop := fun vs H Q => ∃ v, vs = [v] ∧ ∀ a, H a = none → Q (.ref a) (upd H a (ErO (.ref (He.ga K.fr c)) a))
def pErr (c : Str) : List PyData → Option Res
  | [_] => some (.sh (errD c))
  | _ => none
theorem ok_err : PmOk K (rErr K c) (pErr c) := by
  intro Z H vs ds res Q hv h q
  unfold pErr at h
  split at h
  · cases h
    obtain ⟨x, rfl, _⟩ := hv.one
    exact ⟨x, rfl, fun a ha => q _ _ [a] (Grow.upd ha fun _ _ _ z => nomatch z) (rp_err upd_same) fun b hb => .inr (by rw [List.mem_singleton.mp hb]; exact ha)⟩
  · cases h
theorem pe_err (q : (He.Fa.exc c).ok X.kx = true) (gC : X.mg c = some (.ref (He.ga X.kx c))) (hg : Gl X c) (he : PE X e (SemO X.kx W o)) (hs : starEach [e] X.env = (false, eval e X.env) :: starEach [] X.env := by rfl) (hdb : (c == ("__debug__" : Str)) = false := by decide) :
    PE X (.Call (.Name c p) [e] [] pos) (SemE X.kx W (evPm (pErr c) [o])) := by
  obtain ⟨q1, q2, _, _⟩ := He.exc_ok q
  exact PE.imp (pe_exO F.excBase_ValueError q1 gC q2 hg he hs hdb) fun σ H Q h => SemO.mono (sem1 (semPm ok_err h)) fun x H1 ⟨v, ev, q⟩ => q
theorem pmk_own1 {C : Addr} {bmB : List Value} {B newId initId : String} {x : Str} {ta : TE} (F : ExcBaseFacts B newId initId bmB) (q : PySem.W.excIn X.K C bmB newId = true) (gC : X.mg x = some (.ref C)) (kC : PySem.W.keepIn X.K (.ref C) = true) (r : Raises X (.ref C)) (hg : Gl X x)
    (he : PE X e ta) (hs : starEach [e] X.env = (false, eval e X.env) :: starEach [] X.env := by rfl) (hdb : (x == ("__debug__" : Str)) = false := by decide) :
    PMk X (.Call (.Name x p) [e] [] pos) (fun σ H Q => ta σ H fun _ H1 => Q (.ref C) none H1) := by
  intro pins s σ H Q I h
  refine wpAny_Call_Name_kw (ld_glob I hg gC ?_ hdb)
  refine PySem.W.callWith_K (h₀ := X.base) I.ok.mod.kin kC ?_ hs (by rfl)
  rw [hs]
  show wpAny _ _ (spliced ((false, eval e X.env) :: backTo pos (starEach [] X.env))) _ _ s
  refine Calls.spliced_cons (thn (he.run pins s σ H _ I h) fun u s1 ⟨v, H1, I1, _, q1⟩ => Calls.spliced_nil ⟨I1.kIn, ?_⟩)
  show wpAny _ _ (call (.ref C) [u]) _ _ _
  obtain ⟨bm, N, nm, qn, bs, hdct, sn, sub, ab, col, dd, k0, k1, k2, k3, k5, mN, hC, hN, hni, Tt⟩ := exc_obj I1.kIn q
  exact wpAny_call_exc_subT F Tt hC hN hni (fun h' a hm => mk_of I1 hm r q1 (I1.hok.gone hm.new)) (by show 1 ≤ sizeLine; rw [sizeLine_eq]; omega)
end
end
end Ev
set_option Elab.async false
set_option linter.all false
set_option autoImplicit false
set_option maxRecDepth 100000
set_option maxHeartbeats 1000000
namespace Ev
open PySem PySem.Spec L2
open PyProof.Rows hiding St
noncomputable section
section
variable {K : Kx} {W : WX} {al al' : Addr → Prop} {own own' own1 : Own} {ρ ρ' ρ1 ρ2 : Env} {σ σ1 σ' : L2.St} {H H' H1 : Hp} {X : Cx} {pos p : Pos} {D : Ends} {e a b : Expr} {o o2 : Opd} {tbl : Str → Str → Option Bool} {T c x : Str}
def pTell1 : List PyData → Option Res
  | [_] => some (.sh .none)
  | _ => none
def rTell1 : List V → Hp → VK → Prop := fun vs H Q => ∃ v, vs = [v] ∧ Q .non H
theorem ok_tell1 : PmOk K rTell1 pTell1 := by
  intro Z H vs ds res Q hv h q
  unfold pTell1 at h
  split at h
  · cases h
    obtain ⟨v, rfl, _⟩ := hv.one
    exact ⟨v, rfl, q.val .non⟩
  · cases h
def sRaiseE (c : Str) (o : Opd) : EvS := fun ρ => match evPm pTell1 [o] ρ with
  | .ok (.sh _) ρ1 => .exc c ρ1
  | .ok (.ow _) _ => .stuck
  | .exc c' ρ1 => .exc c' ρ1
  | .stuck => .stuck
theorem s_raiseV {p1 : Pos} (hc : X.calm = true) (tk : Takes X W) (q : (He.Fa.exc c).ok X.kx = true) (gC : X.mg c = some (.ref (He.ga X.kx c))) (hg : Gl X c) (he : PE X e (SemO X.kx W o)) (hs : starEach [e] X.env = (false, eval e X.env) :: starEach [] X.env := by rfl) (hdb : (c == ("__debug__" : Str)) = false := by decide) :
    PS X (.Raise (some (.Call (.Name c p) [e] [] p1)) none pos) (SemS X.kx W (sRaiseE c o)) := by
  obtain ⟨q1, q2, q3, q4⟩ := He.exc_ok q
  refine PS.imp (ps_raise hc tk (pmk_own1 F.excBase_ValueError q1 gC q2 (raises_own q3 q4) hg he hs hdb)) fun D σ H ⟨al, own, ρ, p, h⟩ => ?_
  refine SemO.mono (o := o) (Q := fun x H1 => rTell1 [x] H1 fun _ H2 => W (.ref (He.ga X.kx c)) none σ H2) (sem1 (semPm ok_tell1 ⟨al, own, ρ, p, ?_⟩)) fun x H1 ⟨v, _, z⟩ => z
  simp only [sRaiseE] at h
  cases ev : evPm pTell1 [o] ρ with
  | stuck => simp only [ev] at h; exact h
  | exc c' ρ1 => simp only [ev] at h ⊢; exact ExS.toE h
  | ok r ρ1 =>
    cases r with
    | sh d => simp only [ev] at h ⊢; exact fun v H' own' as p s _ _ => h σ H' own' p s
    | ow d => simp only [ev] at h; exact h.elim
def errF (c : Str) (r w : Int) : PyData := .dict [(.bool true, .str c), (.bool false, .dict [(.bool false, .none), (.str "word", .int w), (.str "row", .int r)])]
abbrev brFs (r w : Int) : List (Str × V) := [("word", .int w), ("row", .int r)]
theorem exd_new (d : Addr) (fs : List (Str × V)) : NewO (exd d fs) := fun C dx f2 z => by
  have z' : HO.ext _ = HO.ins C dx f2 := z
  cases z'
theorem rp_errF {d a : Addr} {r w : Int} (h1 : H d = some (exd d (brFs r w))) (h2 : H a = some (ErD (.ref (He.ga K.fr c)) a d)) : Rp K H (.ref a) (errF c r w) [a, d] := by
  have i : Rp K H (.ref d) (.dict [(.bool false, .none), (.str "word", .int w), (.str "row", .int r)]) [d] :=
    .dic (.inl h1) (.x _) (.cons (.bl false) .non (.cons (.str _) (.int w) (.cons (.str _) (.int r) .nil))) fun C dx f2 z => by
      have z' : HO.ext _ = HO.ins C dx f2 := z
      cases z'
  exact .dic (.inl h2) (.ef c d) (.cons (.bl true) (.str c) (.cons (.bl false) i .nil)) fun _ _ _ z => nomatch z
theorem relO_br {r w : Int} {u v : Value} (ru : RelV (.int r) u) (rv : RelV (.int w) v) (f : Str) : RelO ((brFs r w).lookup f) (if f = "word" then some v else if f = "row" then some u else none) := by
  unfold brFs
  rw [lookup_put]
  by_cases h1 : f = "word"
  · rw [if_pos h1, if_pos h1]; exact rv
  · rw [if_neg h1, if_neg h1, lookup_put]
    by_cases h2 : f = "row"
    · rw [if_pos h2, if_pos h2]; exact ru
    · rw [if_neg h2, if_neg h2]; exact True.intro
variable {C fI : Addr} {k : Nat}
def tBrs (C : Addr) (ta : TA) : TE := fun σ H Q => ta σ H fun vs H1 => ∃ r w : Int, vs = [.int r, .int w] ∧ ∀ d, H1 d = none → ∀ e, upd H1 d (exd d (brFs r w)) e = none → Q (.ref e) (upd (upd H1 d (exd d (brFs r w))) e (ErD (.ref C) e d))
theorem br_land {pins : List (Addr × Obj)} {s1 : Shared} {h' : Heap} {tk' : Nat} {e d : Addr} {r w : Int} {u v : Value} {Q : VK} (I1 : Inv X pins σ H1 s1) (ru : RelV (.int r) u) (rv : RelV (.int w) v) (M : PySem.BR.OwnMade s1.heap h' e C d u v)
    (q1 : ∀ d, H1 d = none → ∀ e, upd H1 d (exd d (brFs r w)) e = none → Q (.ref e) (upd (upd H1 d (exd d (brFs r w))) e (ErD (.ref C) e d))) : EP X pins σ Q (.ref e) { s1 with heap := h', toks := tk' } := by
  obtain ⟨hp, g, dr, tk, os⟩ := s1
  obtain ⟨t1, ho⟩ := M.obj
  have hns := M.ns
  obtain ⟨G', g1, g2⟩ := restrict h' fun b => decide (b ≠ e)
  have gk : ∀ b, b ≠ e → G'.get? b = h'.get? b := fun b hb => g1 b (decide_eq_true hb)
  have ge : G'.get? e = none := g2 e (by simp)
  have old : ∀ b o, hp.get? b = some o → G'.get? b = some o := fun b o q => (gk b (Nat.ne_of_lt (Nat.lt_of_lt_of_le (Heap.lt_size q) M.new))).trans (M.keep b o q)
  have ob : ObjOk X.prog X.w (upd H1 d (exd d (brFs r w))) G' d (exd d (brFs r w)) := exd_ok (hns.at (fun o q => (gk d M.dne).trans q)) (relO_br ru rv)
  have J : Inv X pins σ (upd H1 d (exd d (brFs r w))) ⟨G', g, dr, tk', os⟩ := I1.laid (t' := tk') old M.dbig ob
  have hd : H1 d = none := I1.hok.fresh M.dbig
  have he : upd H1 d (exd d (brFs r w)) e = none := by rw [upd_ne (Ne.symm M.dne)]; exact I1.hok.fresh M.new
  have J2 : Inv X pins σ (upd (upd H1 d (exd d (brFs r w))) e (ErD (.ref C) e d)) ⟨h', g, dr, tk', os⟩ := J.laidN (t' := tk') (fun b o q => by
    by_cases hb : b = e
    · have q' : G'.get? b = some o := q
      rw [hb, ge] at q'; cases q'
    · exact (gk b hb).symm.trans q) ge he (erD_ok ho ⟨rfl, rfl⟩ rfl)
  exact ⟨.ref e, _, J2, rfl, q1 d hd e he⟩
theorem pe_brO {ta : TA} (T : PySem.BR.Txt X.prog X.K C fI) (hr : RoomG k X.A) (gC : X.mg x = some (.ref C)) (hg : Gl X x) (ha : PA X (a :: [b]) ta) (hdb : (x == ("__debug__" : Str)) = false := by decide)
    (he : starEach (a :: [b]) X.env = (false, eval a X.env) :: starEach [b] X.env := by rfl) (hpl : (backTo pos (starEach [b] X.env)).any (·.1) = false := by rfl) :
    PE X (.Call (.Name x p) [a, b] [] pos) (tBrs C ta) := by
  refine ⟨fun pins s σ H Q I h => ?_⟩
  refine wpAny_Call_Name_kw (ld_glob I hg gC ?_ hdb)
  refine PySem.W.callWith_K (h₀ := X.base) I.ok.mod.kin T.kC (thn (ha.run pos pins s σ H _ I h) fun us s1 hh => ?_) he hpl
  obtain ⟨vs, H1, I1, r1, r, w, ev, q1⟩ := hh
  subst ev
  refine ⟨I1.kIn, ?_⟩
  cases r1 with
  | cons ru rr =>
    cases rr with
    | cons rv rn =>
      cases rn
      obtain ⟨mb, b1, b2⟩ := I1.mod.blt
      exact wpAny_call (PySem.BR.made_pos T I1.kIn (I1.mod.glob.keeps I1.bk) (PySem.W.mg_none_of I1.mod.kin I1.mod.glob T.glo) ⟨mb, b1.keeps I1.bk, b2⟩ I1.nolimit (by have := hr.r.dp; omega) fun h' tk' e d M => br_land I1 ru rv M q1)
theorem pe_brK {kws : List Keyword} {ta : TA} (T : PySem.BR.Txt X.prog X.K C fI) (hr : RoomG k X.A) (gC : X.mg x = some (.ref C)) (hg : Gl X x) (hkw : PK X kws ta) (hks : (backToKw pos (keywordEach kws X.env)).filterMap (·.1) = (["word", "row"] : List Str) := by rfl)
    (hall : (backToKw pos (keywordEach kws X.env)).all (·.1.isSome) = true := by rfl) (hdb : (x == ("__debug__" : Str)) = false := by decide) (hpl : ((backTo pos (starEach [] X.env)).any (·.1) || (backToKw pos (keywordEach kws X.env)).any (·.1.isNone)) = false := by rfl) :
    PE X (.Call (.Name x p) [] kws pos) (tBrs C (fun σ H R => ta σ H fun vs H1 => R vs.reverse H1)) := by
  refine ⟨fun pins s σ H Q I h => ?_⟩
  refine wpAny_Call_Name_kw (ld_glob I hg gC ?_ hdb)
  refine PySem.W.callWith_KW0 (h₀ := X.base) I.ok.mod.kin T.kC hall ?_ hpl
  refine thn (hkw.run pos pins s σ H _ I h) fun ws s2 ⟨zs, I1H, I1, rz, r, w, ev, q1⟩ => ⟨I1.kIn, ?_⟩
  have ez : zs = [.int w, .int r] := by rw [← List.reverse_reverse zs, ev]; rfl
  subst ez
  rw [hks]
  cases rz with
  | cons rv rr =>
    cases rr with
    | cons ru rn =>
      cases rn
      obtain ⟨mb, b1, b2⟩ := I1.mod.blt
      exact wpAny_call (PySem.BR.made_kw T I1.kIn (I1.mod.glob.keeps I1.bk) (PySem.W.mg_none_of I1.mod.kin I1.mod.glob T.glo) ⟨mb, b1.keeps I1.bk, b2⟩ I1.nolimit (by have := hr.r.dp; omega) fun h' tk' e d M => br_land I1 ru rv M q1)
def pBrs (c : Str) : List PyData → Option Res
  | [.int r, .int w] => some (.sh (errF c r w))
  | _ => none
def pBrsK (c : Str) : List PyData → Option Res
  | [.int w, .int r] => some (.sh (errF c r w))
  | _ => none
def rBrs (K : Kx) (c : Str) (rev : Bool) : List V → Hp → VK → Prop := fun vs H Q => ∃ r w : Int, (if rev = true then vs.reverse else vs) = [.int r, .int w] ∧
  ∀ d, H d = none → ∀ e, upd H d (exd d (brFs r w)) e = none → Q (.ref e) (upd (upd H d (exd d (brFs r w))) e (ErD (.ref (He.ga K.fr c)) e d))
theorem brs_q {Z : Addr → Prop} {Q : VK} {r w : Int} (q : PmQ K Z H Q (.sh (errF c r w))) : ∀ d, H d = none → ∀ e, upd H d (exd d (brFs r w)) e = none → Q (.ref e) (upd (upd H d (exd d (brFs r w))) e (ErD (.ref (He.ga K.fr c)) e d)) := fun d hd e he => by
  have ne : e ≠ d := fun z => by rw [z, upd_same] at he; cases he
  have he0 : H e = none := by rw [upd_ne ne] at he; exact he
  refine q _ _ [e, d] ((Grow.upd hd (exd_new _ _)).trans (Grow.upd he fun _ _ _ z => nomatch z)) (rp_errF (by rw [upd_ne (Ne.symm ne)]; exact upd_same) upd_same) fun b hb => ?_
  rcases List.mem_cons.mp hb with rfl | hb
  · exact .inr he0
  · rw [List.mem_singleton.mp hb]; exact .inr hd
theorem vw_int2 {Z : Addr → Prop} {vs : List V} {i j : Int} (hv : VwA K H Z vs [.int i, .int j]) : vs = [.int i, .int j] := by
  obtain ⟨x, y, rfl, hx, hy⟩ := hv.two
  obtain ⟨as, r1⟩ := hx.rp
  obtain ⟨bs, r2⟩ := hy.rp
  cases r1; cases r2; rfl
theorem ok_brs : PmOk K (rBrs K c false) (pBrs c) := by
  intro Z H vs ds res Q hv h q
  unfold pBrs at h
  split at h
  · cases h
    cases vw_int2 hv
    exact ⟨_, _, rfl, brs_q q⟩
  · cases h
theorem ok_brsK : PmOk K (rBrs K c true) (pBrsK c) := by
  intro Z H vs ds res Q hv h q
  unfold pBrsK at h
  split at h
  · cases h
    cases vw_int2 hv
    exact ⟨_, _, rfl, brs_q q⟩
  · cases h
theorem pe_brs (T : PySem.BR.Txt X.prog X.K (He.ga X.kx x) fI) (hr : RoomG k X.A) (gC : X.mg x = some (.ref (He.ga X.kx x))) (hg : Gl X x) (ha : PA X (a :: [b]) (SemOs X.kx W [o, o2])) (hdb : (x == ("__debug__" : Str)) = false := by decide)
    (he : starEach (a :: [b]) X.env = (false, eval a X.env) :: starEach [b] X.env := by rfl) (hpl : (backTo pos (starEach [b] X.env)).any (·.1) = false := by rfl) :
    PE X (.Call (.Name x p) [a, b] [] pos) (SemE X.kx W (evPm (pBrs x) [o, o2])) :=
  PE.imp (pe_brO T hr gC hg ha hdb he hpl) fun σ H Q h => semPm ok_brs h
theorem pe_brsK {kws : List Keyword} (T : PySem.BR.Txt X.prog X.K (He.ga X.kx x) fI) (hr : RoomG k X.A) (gC : X.mg x = some (.ref (He.ga X.kx x))) (hg : Gl X x) (hkw : PK X kws (tMany X.kx W [o, o2])) (hks : (backToKw pos (keywordEach kws X.env)).filterMap (·.1) = (["word", "row"] : List Str) := by rfl)
    (hall : (backToKw pos (keywordEach kws X.env)).all (·.1.isSome) = true := by rfl) (hdb : (x == ("__debug__" : Str)) = false := by decide) (hpl : ((backTo pos (starEach [] X.env)).any (·.1) || (backToKw pos (keywordEach kws X.env)).any (·.1.isNone)) = false := by rfl) :
    PE X (.Call (.Name x p) [] kws pos) (SemE X.kx W (evPm (pBrsK x) [o, o2])) :=
  PE.imp (pe_brK T hr gC hg hkw hks hall hdb hpl) fun σ H Q h => tMany_of (semPm ok_brsK h)
def rIsF (K : Kx) (cv : Value) : List V → Hp → VK → Prop := fun vs H Q => ∃ a c b, vs = [.ref a] ∧ (Rd H a (ErO (.ref (He.ga K.fr c)) a) ∨ ∃ d fs, Rd H a (ErD (.ref (He.ga K.fr c)) a d) ∧ Rd H d (exd d fs)) ∧ ExcC K.fr (He.ga K.fr c) ∧ PySem.W.kitOne K.fr (.ref (He.ga K.fr c)) cv = some b ∧ Q (.bl b) H
/-- what such a dict stands for -/
theorem err_of {Z : Addr → Prop} {v : V} {c : Str} (hv : Vw K H Z v (.dict [(.bool true, .str c)])) : ∃ a, v = .ref a ∧ Rd H a (ErO (.ref (He.ga K.fr c)) a) := by
  obtain ⟨a, o, vs, as, rfl, h1, h0, r, z⟩ := hv.dict
  refine ⟨a, rfl, ?_⟩
  cases h0 with
  | k kvs =>
    cases kvs with
    | nil => cases r
    | cons p ps =>
      obtain ⟨kk, kv⟩ := p
      cases kk <;> cases r
  | i c dx fs => cases r
  | e c2 => cases r with | cons g0 g1 g2 => cases g1; exact h1
  | ef c2 dx => cases r with | cons g0 g1 g2 => cases g2
  | x fs => cases r
  | n kvs ne tks =>
    cases kvs with
    | nil => exact (ne rfl).elim
    | cons p ps =>
      obtain ⟨d0, a0, v0⟩ := p
      cases r with | cons g0 g1 g2 => cases g0
/-- the fields as data -/
def fsD (fs : List (Str × V)) : List (PyData × V × V) := fs.map fun p => (.str p.1, .str p.1, p.2)
theorem errF_of {Z : Addr → Prop} {v : V} {c : Str} {y : PyData} (hv : Vw K H Z v (.dict [(.bool true, .str c), (.bool false, y)])) : ∃ a d as, v = .ref a ∧ Rd H a (ErD (.ref (He.ga K.fr c)) a d) ∧ Rp K H (.ref d) y as := by
  obtain ⟨a, o, vs, as, rfl, h1, h0, r, z⟩ := hv.dict
  cases h0 with
  | k kvs =>
    cases kvs with
    | nil => cases r
    | cons p ps =>
      obtain ⟨kk, kv⟩ := p
      cases kk <;> cases r
  | i c dx fs => cases r
  | e c2 => cases r with | cons g0 g1 g2 => cases g2
  | ef c2 dx => cases r with | cons g0 g1 g2 => cases g1; cases g2 with | cons g3 g4 g5 => exact ⟨a, dx, _, rfl, h1, g4⟩
  | x fs => cases r
  | n kvs ne tks =>
    cases kvs with
    | nil => exact (ne rfl).elim
    | cons p ps =>
      obtain ⟨d0, a0, v0⟩ := p
      cases r with | cons g0 g1 g2 => cases g0
theorem exd_of {d : Addr} {as : List Addr} {l : List (PyData × PyData)} (r : Rp K H (.ref d) (.dict ((.bool false, .none) :: l)) as) : ∃ fs bs, Rd H d (exd d fs) ∧ RpK K H (fsD fs) l bs := by
  cases r with
  | dic h1 h0 h2 z =>
    cases h0 with
    | k kvs =>
      cases kvs with
      | nil => cases h2
      | cons p ps =>
        obtain ⟨kk, kv⟩ := p
        cases kk <;> cases h2
    | i c dx fs => cases h2
    | e c2 => cases h2
    | ef c2 dx => cases h2
    | x fs => cases h2 with | cons g0 g1 g2 => exact ⟨fs, _, h1, g2⟩
    | n kvs ne tks =>
      cases kvs with
      | nil => exact (ne rfl).elim
      | cons p ps =>
        obtain ⟨d0, a0, v0⟩ := p
        cases h2 with | cons g0 g1 g2 => cases g0
theorem erO_at {s : Shared} {pins : List (Addr × Obj)} {a : Addr} {cv : Value} (I : Inv X pins σ H s) (h : Rd H a (ErO cv a)) : ∃ (oe : Obj) (vs : Array Value), s.heap.get? a = some oe ∧ Zc cv none oe ∧ oe.data = .fields vs := by
  have z : ObjOk X.prog X.w H s.heap a (ErO cv a) := by
    rcases h with h | ⟨ob, h⟩
    · exact I.hok a _ h
    · exact (I.hok a _ h).2
  exact z.1
theorem erD_at {s : Shared} {pins : List (Addr × Obj)} {a d : Addr} {cv : Value} (I : Inv X pins σ H s) (h : Rd H a (ErD cv a d)) : ∃ (oe : Obj) (vs : Array Value), s.heap.get? a = some oe ∧ Zc cv (some d) oe ∧ oe.data = .fields vs := by
  have z : ObjOk X.prog X.w H s.heap a (ErD cv a d) := by
    rcases h with h | ⟨ob, h⟩
    · exact I.hok a _ h
    · exact (I.hok a _ h).2
  exact z.1
theorem exd_rd {s : Shared} {pins : List (Addr × Obj)} {d : Addr} {fs : List (Str × V)} (I : Inv X pins σ H s) (h : Rd H d (exd d fs)) : ∃ mA, s.heap.Ns1 d mA ∧ ∀ f, RelO (fs.lookup f) (mA f) := by
  have z : ObjOk X.prog X.w H s.heap d (.ext fun h => ∃ mA, h.Ns1 d mA ∧ ∀ f, RelO (fs.lookup f) (mA f)) := by
    rcases h with h | ⟨ob, h⟩
    · exact I.hok d _ h
    · exact (I.hok d _ h).2
  exact z.1
theorem call_isF : CallR X (.builtin "isinstance") (fun xs H Q => ∃ x tv cv, xs = [x, tv] ∧ (∀ u, RelV tv u → u = cv) ∧ rIsF X.kx cv [x] H Q) := by
  intro pins s σ H xs us Q I r h
  obtain ⟨x, tv, cv, rfl, hcv, a, c, b, e, hh, C, k, q⟩ := h
  cases e
  obtain ⟨u, t, rfl, ru, rt⟩ : ∃ u t, us = [u, t] ∧ RelV (.ref a) u ∧ RelV tv t := by
    cases r with
    | cons r1 r2 =>
      cases r2 with
      | cons r3 r4 => cases r4; exact ⟨_, _, rfl, r1, r3⟩
  cases ru
  have et := hcv _ rt
  subst et
  obtain ⟨cd, hcd, _⟩ := PySem.W.any_some C.hd
  have hcl : (PySem.W.clsIn X.kx.fr (He.ga X.kx.fr c)).isSome = true := by rw [hcd]; rfl
  rcases hh with hh | ⟨d, fs, hh, h2⟩
  · obtain ⟨⟨oc, od, oda, osl⟩, vs, hg, ⟨z1, z2⟩, hd⟩ := erO_at I hh
    dsimp only at z1 z2 hd
    subst z1 z2 hd
    exact PySem.W.kia_one (PySem.W.kitx_exc (od := none) hcl C.hg C.hk C.hs C.ha C.hn C.ht C.hm) I.kIn ⟨hg, rfl, rfl, trivial⟩ k (fun z => nomatch z) fun tk => ⟨.bl b, H, I.kept (t' := tk) fun _ _ z => z, rfl, q⟩
  · obtain ⟨⟨oc, od, oda, osl⟩, vs, hg, ⟨z1, z2⟩, hd⟩ := erD_at I hh
    dsimp only at z1 z2 hd
    subst z1 z2 hd
    obtain ⟨mA, hns, _⟩ := exd_rd I h2
    obtain ⟨od, ho, _⟩ := lookIn_ns hns
    exact PySem.W.kia_one (PySem.W.kitx_exc (od := some od) hcl C.hg C.hk C.hs C.ha C.hn C.ht C.hm) I.kIn ⟨hg, rfl, rfl, ho⟩ k (fun z => nomatch z) fun tk => ⟨.bl b, H, I.kept (t' := tk) fun _ _ z => z, rfl, q⟩
def pIsG (tbl : Str → Str → Option Bool) (T : Str) : List PyData → Option Res
  | [.dict [(.bool true, .str c)]] => (tbl c T).map fun b => .sh (.bool b)
  | [.dict [(.bool true, .str c), (.bool false, .dict ((.bool false, .none) :: _))]] => (tbl c T).map fun b => .sh (.bool b)
  | _ => none
theorem ok_isG (xf : XF K.fr tbl) : PmOk K (rIsF K (clsV K.fr T)) (pIsG tbl T) := by
  intro Z H vs ds res Q hv h q
  unfold pIsG at h
  split at h
  · rename_i c
    obtain ⟨b, hb, rfl⟩ := Option.map_eq_some_iff.mp h
    obtain ⟨x, rfl, hx⟩ := hv.one
    obtain ⟨a, rfl, h1⟩ := err_of hx
    exact ⟨a, c, b, rfl, .inl h1, xf.cls c T b hb, xf.kit c T b hb, q.val (.bl _)⟩
  · rename_i c l
    obtain ⟨b, hb, rfl⟩ := Option.map_eq_some_iff.mp h
    obtain ⟨x, rfl, hx⟩ := hv.one
    obtain ⟨a, d, as, rfl, h1, r⟩ := errF_of hx
    obtain ⟨fs, bs, h2, _⟩ := exd_of r
    exact ⟨a, c, b, rfl, .inr ⟨d, fs, h1, h2⟩, xf.cls c T b hb, xf.kit c T b hb, q.val (.bl _)⟩
  · cases h
/-- a class by its name, as an operand -/
theorem pe_cls {p2 : Pos} (hc : Names X T (clsV X.kx T)) : ∃ tv, (∀ u, RelV tv u → u = clsV X.kx T) ∧ PE X (.Name T p2) (tC tv) := by
  obtain ⟨hg2, hd2, hm2⟩ := hc
  by_cases hT : T = "ValueError"
  · have e : clsV X.kx T = .type "ValueError" := if_pos hT
    refine ⟨.ty "ValueError", fun u r => by rw [e]; exact r, ?_⟩
    rcases hm2 with hm2 | ⟨hm2, hv, hn⟩
    · exact pe_glob hg2 hm2 (by rw [e]; rfl) hd2
    · exact pe_bltn hg2 hm2 hv (by rw [e]; rfl) hn hd2
  · have e : clsV X.kx T = .ref (He.ga X.kx T) := if_neg hT
    refine ⟨.ref (He.ga X.kx T), fun u r => by rw [e]; exact r, ?_⟩
    rcases hm2 with hm2 | ⟨hm2, hv, hn⟩
    · exact pe_glob hg2 hm2 (by rw [e]; rfl) hd2
    · exact pe_bltn hg2 hm2 hv (by rw [e]; rfl) hn hd2
theorem pe_isG {p2 : Pos} (xf : XF X.kx tbl) (ha : PE X e (SemO X.kx W o)) (hg : Gl X "isinstance") (hm : X.mg "isinstance" = none) (hc : Names X T (clsV X.kx T))
    (hs : starEach [e, .Name T p2] X.env = (false, eval e X.env) :: starEach [.Name T p2] X.env := by rfl) :
    PE X (.Call (.Name "isinstance" p) [e, .Name T p2] [] pos) (SemE X.kx W (evPm (pIsG tbl T) [o])) := by
  obtain ⟨tv, r1, hP⟩ := pe_cls (p2 := p2) hc
  exact PE.imp (pe_callB call_isF hg hm boot_isinstance (pa_cons ha (pa_cons hP pa_nil) hs) (he := hs)) fun σ H Q h => SemO.mono (sem1 (semPm (ok_isG (T := T) xf) h)) fun v H1 q => ⟨v, tv, _, rfl, r1, q⟩
def getF (f : Str) : List (PyData × PyData) → Option PyData
  | [] => none
  | (.str g, y) :: l => if f = g then some y else getF f l
  | _ :: _ => none
def pXfd (c f : Str) : List PyData → Option Res
  | [.dict [(.bool true, .str c'), (.bool false, .dict ((.bool false, .none) :: l))]] => if c' = c then (match getF f l with
    | some (.int i) => some (.sh (.int i))
    | _ => none) else none
  | _ => none
def rXfd (K : Kx) (c f : Str) : List V → Hp → VK → Prop := fun vs H Q => ∃ a d fs v, vs = [.ref a] ∧ Rd H a (ErD (.ref (He.ga K.fr c)) a d) ∧ Rd H d (exd d fs) ∧ fs.lookup f = some v ∧ Q v H
theorem getF_of {f : Str} {i : Int} : ∀ {fs : List (Str × V)} {l : List (PyData × PyData)} {bs : List Addr}, RpK K H (fsD fs) l bs → getF f l = some (.int i) → fs.lookup f = some (.int i)
  | [], _, _, .nil, h => by cases h
  | (g, v) :: fs, _, _, .cons g0 g1 g2, h => by
    rw [lookup_put]
    simp only [getF] at h
    by_cases e : f = g
    · rw [if_pos e] at h ⊢
      cases h
      cases g1
      rfl
    · rw [if_neg e] at h ⊢
      exact getF_of g2 h
theorem ok_xfd {f : Str} : PmOk K (rXfd K c f) (pXfd c f) := by
  intro Z H vs ds res Q hv h q
  unfold pXfd at h
  split at h
  · rename_i c' l
    split at h
    · rename_i ec
      subst ec
      split at h
      · rename_i i hi
        cases h
        obtain ⟨x, rfl, hx⟩ := hv.one
        obtain ⟨a, d, as, rfl, h1, r⟩ := errF_of hx
        obtain ⟨fs, bs, h2, rk⟩ := exd_of r
        exact ⟨a, d, fs, .int i, rfl, h1, h2, getF_of rk hi, q.val (.int _)⟩
      · cases h
    · cases h
  · cases h
theorem pe_xfd {f : Str} (T : XfC X.K (He.ga X.kx c)) (hno : PySem.W.findIn X.K (.ref (He.ga X.kx c)) f = some none) (he : PE X e (SemO X.kx W o)) (hb : attributeBase e f X.env (eval e X.env) = eval e X.env := by rfl) :
    PE X (.Attribute e f pos) (SemE X.kx W (evPm (pXfd c f) [o])) := by
  refine ⟨fun pins s σ H Q I h => ?_⟩
  refine attr_of hb (thn (he.run pins s σ H _ I (sem1 (semPm ok_xfd h))) fun u s1 hh => ?_)
  obtain ⟨x, H1, I1, rx, a, d, fs, v, ex, h1, h2, hl, q⟩ := hh
  cases ex
  obtain rfl : u = Value.ref a := rx
  obtain ⟨oe, vs, hg, hz, hd⟩ := erD_at I1 h1
  obtain ⟨mA, hns, hr⟩ := exd_rd I1 h2
  obtain ⟨od, ho, hlk⟩ := lookIn_ns hns
  obtain ⟨w, hu, ru⟩ := RelO.some_of (v := v) (o := mA f) (by rw [← hl]; exact hr f)
  have J : PySem.W.InstAt s1.heap a oe (He.ga X.kx c) (some od) := ⟨hg, hz.1, by unfold PySem.W.notCls; rw [hd] <;> rfl, by rw [hz.2]; exact ho⟩
  exact HandSPX.exc_get I1.kIn J T.ga T.gg T.exC (PySem.W.findObj_own T.hdC hno rfl (by rw [hlk, hu])) (handed_of ru) ⟨v, H1, I1.tok _, ru, q⟩
def goM (tbl : Str → Str → Option Bool) (c : Str) : List (Str × EvS) → EvS
  | [], ρ => .exc c ρ
  | (T, fs) :: r, ρ => match tbl c T with
    | some true => (match fs ρ with
      | .exc _ _ => .stuck
      | o => o)
    | some false => goM tbl c r ρ
    | none => .stuck
def evTryM (tbl : Str → Str → Option Bool) (cs : List (Str × EvS)) (fb : EvS) : EvS := fun ρ => match fb ρ with
  | .exc c ρ' => goM tbl c cs ρ'
  | o => o
def hsE (K : Kx) (cs : List (Str × EvS)) : List (Value × (Addr → Value → Option Addr → TS)) := cs.map fun q => (clsV K.fr q.1, fun _ _ _ => SemS K WF q.2)
theorem hd_nil : HdsOk X [] (hsE X.kx []) := .nil
theorem hd_cons {suite : List Stmt} {b₀ : Stmt} {np pos' : Pos} {hds : List ExceptHandler} {cs : List (Str × EvS)} {fs : EvS} (hc : Names X T (clsV X.kx T)) (hsu : ∀ (a : Addr) (oe : Obj) (pn : List (Addr × Obj)), PSs (X.suite a ((a, oe) :: pn)) (b₀ :: suite) (SemS X.kx WF fs)) (r : HdsOk X hds (hsE X.kx cs)) :
    HdsOk X (.ExceptHandler (some (.Name T np)) none (b₀ :: suite) pos' :: hds) (hsE X.kx ((T, fs) :: cs)) :=
  .cons hc (fun a oe _ _ pn _ _ => hsu a oe pn) r
theorem many_go (xf : XF X.kx tbl) {c : Str} (p : Pre X.kx al own' ρ' σ' H') (s : Stp own ρ H own' ρ' H') : ∀ {cs : List (Str × EvS)}, OkS X.kx W al own ρ H D (goM tbl c cs ρ') → wMany X.K W D (hsE X.kx cs) (.ref (He.ga X.kx c)) none σ' H'
  | [], h => h σ' H' own' p s
  | (T, fs) :: cs, h => by
    simp only [goM] at h
    cases et : tbl c T with
    | none => simp only [et] at h; exact h.elim
    | some b =>
      refine ⟨b, xf.exm c T b et, fun hb a ha => ?_, fun hb => ?_⟩
      · subst hb
        simp only [et] at h
        refine ⟨al, own', ρ', p, ?_⟩
        show OkS X.kx WF al own' ρ' H' D (fs ρ')
        cases ef : fs ρ' with
        | exc _ _ => simp only [ef] at h; exact h.elim
        | stuck => simp only [ef] at h; exact h
        | next ρ3 => simp only [ef] at h; exact OkS.after (o := .next ρ3) s h
        | brk ρ3 => simp only [ef] at h; exact OkS.after (o := .brk ρ3) s h
        | cont ρ3 => simp only [ef] at h; exact OkS.after (o := .cont ρ3) s h
        | ret r ρ3 => simp only [ef] at h; exact OkS.after (o := .ret r ρ3) s h
      · subst hb
        simp only [et] at h
        exact many_go xf p s h
theorem s_tryM {body : List Stmt} {fb : EvS} {h₀ : ExceptHandler} {hds : List ExceptHandler} {cs : List (Str × EvS)} (xf : XF X.kx tbl) (hs : X.stack = X.env :: X.outer) (hf : X.env.frame = some X.env.locals) (tk : Takes X W)
    (hb : ∀ (W : WX) (pn : List (Addr × Obj)) (xe : Value → Shared → Prop), Takes (X.tr pn xe) W → PassesOwn (model X.prog X.w) X.A X.env xe → PSs (X.tr pn xe) body (SemS X.kx W fb))
    (hh : HdsOk X (h₀ :: hds) (hsE X.kx cs)) : PS X (.Try body (h₀ :: hds) [] [] pos) (SemS X.kx W (evTryM tbl cs fb)) := by
  refine PS.imp (ps_try_many (tb := fun W => SemS X.kx W fb) hs hf tk hb hh) fun D σ H ⟨al, own, ρ, p, h⟩ => ⟨al, own, ρ, p, ?_⟩
  simp only [evTryM] at h
  cases e : fb ρ with
  | next ρ' => simp only [e] at h; exact h
  | ret r ρ' => simp only [e] at h; exact h
  | brk ρ' => simp only [e] at h; exact h
  | cont ρ' => simp only [e] at h; exact h
  | stuck => simp only [e] at h; exact h
  | exc c ρ' =>
    simp only [e] at h
    exact fun σ' H' own' p' s' => many_go xf p' s' h
end
end
end Ev
set_option Elab.async false
set_option linter.all false
set_option autoImplicit false
set_option maxRecDepth 100000
set_option maxHeartbeats 1000000
namespace Ev
open PySem PySem.Spec L2
open PyProof.Rows hiding St
noncomputable section
section
variable {K : Kx} {W : WX} {al al' : Addr → Prop} {own own' own1 : Own} {ρ ρ' ρ1 ρ2 : Env} {σ σ1 σ' : L2.St} {H H' H1 : Hp} {X : Cx} {pos p : Pos} {D : Ends} {e a b : Expr} {tbl : Str → Str → Option Bool} {T c x n rn wn : Str} {C fI : Addr} {k i ir iw : Nat}
/-- BadRows(row, word), raised -/
def tBrR (C : Addr) (ta : TA) : L2.St → Hp → XK → Prop := fun σ H Q => ta σ H fun vs H1 => ∃ r w : Int, vs = [.int r, .int w] ∧ ∀ d, H1 d = none → Q (.ref C) (some d) (upd H1 d (.xd (brFs r w)))
theorem pmk_br {ta : TA} (T : PySem.BR.Txt X.prog X.K C fI) (hr : RoomG k X.A) (gC : X.mg x = some (.ref C)) (hg : Gl X x) (ha : PA X (a :: [b]) ta) (hdb : (x == ("__debug__" : Str)) = false := by decide)
    (he : starEach (a :: [b]) X.env = (false, eval a X.env) :: starEach [b] X.env := by rfl) (hpl : (backTo pos (starEach [b] X.env)).any (·.1) = false := by rfl) :
    PMk X (.Call (.Name x p) [a, b] [] pos) (tBrR C ta) := by
  intro pins s σ H Q I h
  refine wpAny_Call_Name_kw (ld_glob I hg gC ?_ hdb)
  refine PySem.W.callWith_K (h₀ := X.base) I.ok.mod.kin T.kC (thn (ha.run pos pins s σ H _ I h) fun us s1 hh => ?_) he hpl
  obtain ⟨vs, H1, I1, r1, r, w, ev, q1⟩ := hh
  subst ev
  refine ⟨I1.kIn, ?_⟩
  cases r1 with
  | cons ru rr =>
    cases rr with
    | cons rv rn =>
      cases rn
      obtain ⟨mb, b1, b2⟩ := I1.mod.blt
      refine wpAny_call (PySem.BR.made_pos T I1.kIn (I1.mod.glob.keeps I1.bk) (PySem.W.mg_none_of I1.mod.kin I1.mod.glob T.glo) ⟨mb, b1.keeps I1.bk, b2⟩ I1.nolimit (by have := hr.r.dp; omega) fun h' tk' e d M => ?_)
      show MkP X pins σ Q (.ref e) _
      obtain ⟨hp, g, dr, tk, os⟩ := s1
      obtain ⟨t1, ho⟩ := M.obj
      have hns := M.ns
      obtain ⟨G', g1, g2⟩ := restrict h' fun b => decide (b ≠ e)
      have gk : ∀ b, b ≠ e → G'.get? b = h'.get? b := fun b hb => g1 b (decide_eq_true hb)
      have ge : G'.get? e = none := g2 e (by simp)
      have old : ∀ b o, hp.get? b = some o → G'.get? b = some o := fun b o q => (gk b (Nat.ne_of_lt (Nat.lt_of_lt_of_le (Heap.lt_size q) M.new))).trans (M.keep b o q)
      have ob : ObjOk X.prog X.w (upd H1 d (.xd (brFs r w))) G' d (.xd (brFs r w)) := ⟨_, hns.at (fun o q => (gk d M.dne).trans q), relO_br ru rv⟩
      have J : Inv X pins σ (upd H1 d (.xd (brFs r w))) ⟨G', g, dr, tk', os⟩ := I1.laid (t' := tk') old M.dbig ob
      refine ⟨e, _, _, ⟨G', g, dr, tk', os⟩, _, .ref C, some d, rfl, J, fun b o q => ?_, ge, ho, ⟨rfl, rfl⟩, rfl, rfl, ?_, rfl, I1.bare, raises_own T.exC T.tyC, q1 d (I1.hok.fresh M.dbig)⟩
      · by_cases hb : b = e
        · have q' : G'.get? b = some o := q
          rw [hb, ge] at q'; cases q'
        · exact (gk b hb).symm.trans q
      · rw [upd_ne (Ne.symm M.dne)]
        exact I1.hok.fresh M.new
/-- isinstance(e, C), e held by the suite, its dict at dd -/
theorem call_isX {a dd : Addr} {oe : Obj} {pn : List (Addr × Obj)} (E : ExcC X.K C) (hz : Zc (.ref C) (some dd) oe) (hf : ∃ vs, oe.data = .fields vs) :
    CallR (X.suite a ((a, oe) :: pn)) (.builtin "isinstance") (fun xs H Q => ∃ fs b, xs = [.ref a, .ref C] ∧ H dd = some (.xd fs) ∧ PySem.W.kitOne X.K (.ref C) (.ref C) = some b ∧ Q (.bl b) H) := by
  intro pins s σ H xs us Q I r h
  obtain ⟨fs, b, rfl, hd, k, q⟩ := h
  obtain ⟨u, t, rfl, ru, rt⟩ : ∃ u t, us = [u, t] ∧ RelV (.ref a) u ∧ RelV (.ref C) t := by
    cases r with
    | cons r1 r2 =>
      cases r2 with
      | cons r3 r4 => cases r4; exact ⟨_, _, rfl, r1, r3⟩
  cases ru
  cases rt
  obtain ⟨hg, _⟩ := I.pin (a, oe) (List.mem_append_left _ List.mem_cons_self)
  obtain ⟨vs, hv⟩ := hf
  have z : ObjOk X.prog X.w H s.heap dd (.xd fs) := I.hok dd _ hd
  obtain ⟨mA, hns, _⟩ := z
  obtain ⟨od, ho, _⟩ := lookIn_ns hns
  obtain ⟨cd, hcd, _⟩ := PySem.W.any_some E.hd
  have hcl : (PySem.W.clsIn X.K C).isSome = true := by rw [hcd]; rfl
  obtain ⟨oc, odd, oda, osl⟩ := oe
  obtain ⟨z1, z2⟩ := hz
  dsimp only at z1 z2 hv
  subst z1 z2 hv
  exact PySem.W.kia_one (PySem.W.kitx_exc (od := some od) hcl E.hg E.hk E.hs E.ha E.hn E.ht E.hm) I.kIn ⟨hg, rfl, rfl, ho⟩ k (fun z => nomatch z) fun tk => ⟨.bl b, H, I.kept (t' := tk) fun _ _ z => z, rfl, q⟩
/-- the suite -/
def tSuX (C : Addr) (i ir iw : Nat) : Addr → Value → Option Addr → TS := fun a cls d D σ H => ∃ (dd : Addr) (r w : Int), cls = .ref C ∧ d = some dd ∧ σ[i]? = some (some (.ref a)) ∧ σ[ir]? = some (some (.int r)) ∧ σ[iw]? = some (some (.int w)) ∧ H dd = some (.xd (brFs r w)) ∧ D.rt (.bl true) H
theorem su_x {a : Addr} {oe : Obj} {cls : Value} {d : Option Addr} {pn : List (Addr × Obj)} {p1 p2 p3 p4 p5 p6 p7 p8 p9 p10 p11 p12 p13 : Pos} (E : ExcC X.K C) (F : XfC X.K C) (noR : PySem.W.findIn X.K (.ref C) "row" = some none) (noW : PySem.W.findIn X.K (.ref C) "word" = some none)
    (ki : PySem.W.kitOne X.K (.ref C) (.ref C) = some true) (gC : X.mg x = some (.ref C)) (hg : Gl X x) (gi : Gl X "isinstance") (hm : X.mg "isinstance" = none)
    (hv : ∀ p, PE (X.suite a ((a, oe) :: pn)) (.Name n p) (tVar i)) (hR : ∀ p, PE (X.suite a ((a, oe) :: pn)) (.Name rn p) (tVar ir)) (hW : ∀ p, PE (X.suite a ((a, oe) :: pn)) (.Name wn p) (tVar iw)) (hz : Zc cls d oe) (hf : ∃ vs, oe.data = .fields vs) (hd : (x == ("__debug__" : Str)) = false)
    (hs : starEach [.Name n p1, .Name x p2] X.env = (false, eval (.Name n p1) X.env) :: starEach [.Name x p2] X.env := by rfl)
    (hb1 : attributeBase (.Name n p5) "row" X.env (eval (.Name n p5) X.env) = eval (.Name n p5) X.env := by rfl) (hb2 : attributeBase (.Name n p9) "word" X.env (eval (.Name n p9) X.env) = eval (.Name n p9) X.env := by rfl) :
    PSs (X.suite a ((a, oe) :: pn)) [.Return (some (.BoolOp .And [.Call (.Name "isinstance" p3) [.Name n p1, .Name x p2] [] p4, .Compare (.Attribute (.Name n p5) "row" p6) [.Eq] [.Name rn p7] p8, .Compare (.Attribute (.Name n p9) "word" p10) [.Eq] [.Name wn p11] p12] p13)) p] (tSuX C i ir iw a cls d) := by
  refine ⟨fun pins s σ H D I ⟨dd, r, w, e1, e2, h1, h2, h3, h4, q⟩ => ?_⟩
  subst e1 e2
  have hx : PE (X.suite a ((a, oe) :: pn)) (.Name x p2) (tC (.ref C)) := pe_glob (X := X.suite a ((a, oe) :: pn)) hg gC rfl hd
  have A := pe_callB (X := X.suite a ((a, oe) :: pn)) (p := p3) (pos := p4) (call_isX E hz hf) gi hm boot_isinstance (pa_cons (hv p1) (pa_cons hx pa_nil) hs) (he := hs)
  have B := pe_cmpR (X := X.suite a ((a, oe) :: pn)) (pos := p8) op_eq (pe_xf (pos := p6) F noR hz hf (hv p5) hb1) (hR p7) (nomark _)
  have G := pe_cmpR (X := X.suite a ((a, oe) :: pn)) (pos := p12) op_eq (pe_xf (pos := p10) F noW hz hf (hv p9) hb2) (hW p11) (nomark _)
  refine (pss_one (ps_ret (pe_and (pos := p13) A (pe_and (pos := p13) B (pe_one (pos := p13) G))))).run pins s σ H D I ?_
  refine ⟨_, h1, _, true, rfl, h4, ki, true, rfl, ?_⟩
  rw [if_pos rfl]
  refine ⟨_, h1, rfl, rfl, dd, _, .int r, rfl, h4, rfl, _, h2, ?_⟩
  refine ⟨rfl, true, congrArg V.bl (decide_eq_true rfl), ?_⟩
  rw [if_pos rfl]
  refine ⟨_, h1, rfl, rfl, dd, _, .int w, rfl, h4, rfl, _, h3, ?_⟩
  refine ⟨rfl, ?_⟩
  rw [show decide (V.int w = V.int w) = true from decide_eq_true rfl]
  exact q
def evBaseC (i ir iw : Nat) : EvS := fun ρ => match ρ[ir]?, ρ[iw]?, ρ[i]? with
  | some (some (.sh (.int _))), some (some (.sh (.int _))), some none => .ret (.sh (.bool true)) (ρ.set i none)
  | _, _, _ => .stuck
theorem slot_int {j : Nat} {z : Int} (p : Pre K al own ρ σ H) (e : ρ[j]? = some (some (.sh (.int z)))) : σ[j]? = some (some (.int z)) := by
  obtain ⟨v, h1, as, r, _⟩ := p.sl j _ e
  cases r
  exact h1
theorem s_baseC {np p1 p2 p3 p4 p5 p6 p7 p8 p9 p10 p11 p12 p13 p14 p15 p16 p17 p18 p19 : Pos} (Tx : PySem.BR.Txt X.prog X.K (He.ga X.kx x) fI) (xf : XF X.kx tbl) (ht : tbl x T = some true) (hx : tbl x x = some true) (hxV : x ≠ "ValueError") (F : XfC X.K (He.ga X.kx x)) (hr : RoomG k X.A) (hc : X.calm = true)
    (hs : X.stack = X.env :: X.outer) (hf : X.env.frame = some X.env.locals) (hN : X.N.Nodup) (hi : X.N[i]? = some n) (hln : X.env.kindOf n = some .local) (hcT : Names X T (clsV X.kx T)) (tk : Takes X W) (gC : X.mg x = some (.ref (He.ga X.kx x))) (hg : Gl X x) (gi : Gl X "isinstance") (hm : X.mg "isinstance" = none)
    (hb : ∀ (pn : List (Addr × Obj)) (xe : Value → Shared → Prop), PA (X.tr pn xe) [.Name rn p1, .Name wn p2] (tCons (tVar ir) (tCons (tVar iw) tNil)))
    (hv : ∀ (a : Addr) (pn : List (Addr × Obj)) (p : Pos), PE (X.suite a pn) (.Name n p) (tVar i)) (hR : ∀ (a : Addr) (pn : List (Addr × Obj)) (p : Pos), PE (X.suite a pn) (.Name rn p) (tVar ir)) (hW : ∀ (a : Addr) (pn : List (Addr × Obj)) (p : Pos), PE (X.suite a pn) (.Name wn p) (tVar iw)) (hd : (x == ("__debug__" : Str)) = false := by decide)
    (he : starEach [.Name rn p1, .Name wn p2] X.env = (false, eval (.Name rn p1) X.env) :: starEach [.Name wn p2] X.env := by rfl) (hpl : (backTo p4 (starEach [.Name wn p2] X.env)).any (·.1) = false := by rfl)
    (hse : starEach [.Name n p6, .Name x p7] X.env = (false, eval (.Name n p6) X.env) :: starEach [.Name x p7] X.env := by rfl)
    (hb1 : attributeBase (.Name n p10) "row" X.env (eval (.Name n p10) X.env) = eval (.Name n p10) X.env := by rfl) (hb2 : attributeBase (.Name n p14) "word" X.env (eval (.Name n p14) X.env) = eval (.Name n p14) X.env := by rfl) :
    PS X (.Try [.Raise (some (.Call (.Name x p3) [.Name rn p1, .Name wn p2] [] p4)) none p5] [.ExceptHandler (some (.Name T np)) (some n)
      [.Return (some (.BoolOp .And [.Call (.Name "isinstance" p8) [.Name n p6, .Name x p7] [] p9, .Compare (.Attribute (.Name n p10) "row" p11) [.Eq] [.Name rn p12] p13, .Compare (.Attribute (.Name n p14) "word" p15) [.Eq] [.Name wn p16] p17] p18)) p] p19] [] [] pos) (SemS X.kx W (evBaseC i ir iw)) := by
  have cv : clsV X.K x = .ref (He.ga X.kx x) := if_neg hxV
  have E : ExcC X.K (He.ga X.kx x) := xf.cls x x true hx
  have ki : PySem.W.kitOne X.K (.ref (He.ga X.kx x)) (.ref (He.ga X.kx x)) = some true := by
    have z := xf.kit x x true hx
    rw [show clsV X.kx.fr x = .ref (He.ga X.kx x) from if_neg hxV] at z
    exact z
  refine PS.imp (ps_try_as (i := i) (tb := fun W => fun D σ H => tBrR (He.ga X.kx x) (tCons (tVar ir) (tCons (tVar iw) tNil)) σ H fun cls d H' => W cls d σ H') (ts := tSuX (He.ga X.kx x) i ir iw) hs hf hN hi hln hcT tk
    (fun W pn xe tk2 _ => pss_one (ps_raise (X := X.tr pn xe) hc tk2 (pmk_br (X := X.tr pn xe) (k := k) Tx hr gC hg (hb pn xe) hd he hpl)))
    (fun a oe cls d pn hz hfl => su_x E F Tx.noR Tx.noW ki gC hg gi hm (fun p => hv a _ p) (fun p => hR a _ p) (fun p => hW a _ p) hz hfl hd hse hb1 hb2)) fun D σ H ⟨al, own, ρ, p, h⟩ => ?_
  unfold evBaseC at h
  split at h
  · rename_i r w er ew ei
    have sr := slot_int p er
    have sw := slot_int p ew
    have hli : i < σ.length := by rw [← p.len]; exact (List.getElem?_eq_some_iff.mp ei).1
    have nr : i ≠ ir := fun z => by rw [z, er] at ei; cases ei
    have nw : i ≠ iw := fun z => by rw [z, ew] at ei; cases ei
    refine ⟨_, sr, _, sw, r, w, rfl, fun d hd0 => ⟨true, xf.exm x T true ht, fun _ a ha => ⟨d, r, w, rfl, rfl, List.getElem?_set_self hli, ?_, ?_, upd_same, ?_⟩, fun z => Bool.noConfusion z⟩⟩
    · rw [List.getElem?_set_ne nr]; exact sr
    · rw [List.getElem?_set_ne nw]; exact sw
    · have g : Grow H (upd H d (.xd (brFs r w))) := Grow.upd hd0 fun _ _ _ z => nomatch z
      exact h (.bl true) (σ.set i (some (.ref a))) _ own [] ((p.grow g).blank i _) (g.stp.trans (Stp.refl.blank fun d => by rw [ei]; exact ⟨fun z => (nomatch z), fun z => (nomatch z)⟩)) (.bl true) fun _ z => nomatch z
  · exact h.elim
end
end
end Ev
set_option Elab.async false
set_option linter.all false
set_option autoImplicit false
set_option maxRecDepth 100000
set_option maxHeartbeats 1000000
namespace Ev
open PySem PySem.Spec L2
open PyProof.Rows hiding St
noncomputable section
abbrev BrW : Type := Option (Arguments × FuncBody × Scope)
def brC (K : PySem.W.Frag) : Addr := He.ga K "BadRows"
def brI (K : PySem.W.Frag) : Addr := He.ma K (brC K) "__init__"
def brW (K : PySem.W.Frag) : BrW := match K.lookup (brI K) with
  | some ⟨_, _, .func fd, _⟩ => some (fd.params, fd.body, fd.scope)
  | _ => none
def brO (K : PySem.W.Frag) (C : Addr) : Bool := match K.lookup C with
  | some ⟨.type "type", _, .cls cd, sl⟩ => (match cd.mro, sl.toList with
    | .ref C' :: bm, [_, _, _, _, some (.builtin n), _] => C' == C && (n == "ValueError.__new__" && (!cd.hasDel && (cd.hasDict && PySem.HandSPX.refsVE bm)))
    | _, _ => false)
  | _ => false
def brF (K : PySem.W.Frag) (C fI : Addr) (pf : Str) : Bool := match K.lookup fI with
  | some ⟨_, _, .func fd, _⟩ => decide (fd.name = "__init__") && (decide (fd.qualname = "BadRows.__init__") && (decide (fd.globals = mainGlobals) && (decide (fd.builtins = builtinsNs) && (decide (fd.defaults = .none) && (decide (fd.kwdefaults = .none) &&
    (match fd.closure, fd.code with
    | [(x, cc)], .ref cda => decide (x = "__class__") && (PySem.W.codeIn K (.ref cda) "BadRows.__init__" && ((match K.lookup cda with
      | some ⟨_, _, .fields vs, _⟩ => (match (vs[2]? : Option Value) with
        | some (Value.str f _) => decide (f = pf)
        | _ => false)
      | _ => false) && (match K.lookup cc with
      | some ⟨_, _, .cell (some (.ref c)), _⟩ => c == C
      | _ => false)))
    | _, _ => false))))))
  | _ => false
def brB (pf : Str) (K : PySem.W.Frag) : Bool := brO K (brC K) && (brF K (brC K) (brI K) pf && (decide (PySem.W.findIn K (.ref (brC K)) "__setattr__" = some (some (.builtin "object.__setattr__"))) && (decide (PySem.W.findIn K (.ref (brC K)) "__getattribute__" = some (some (.builtin "BaseException.__getattribute__"))) &&
  (decide (PySem.W.findIn K (.ref (brC K)) "__getattr__" = some none) && (decide (PySem.W.findIn K (.ref (brC K)) "row" = some none) && (decide (PySem.W.findIn K (.ref (brC K)) "word" = some none) && (decide (PySem.W.findIn K (.ref (brC K)) "__init__" = some (some (.ref (brI K)))) &&
  (decide (PySem.W.typeIn K (.ref (brI K)) = some (.type "function")) && (PySem.W.keepIn K (.ref (brC K)) && (decide (PySem.W.subIn K (.ref (brC K)) (.type "BaseException") = some true) && (decide (PySem.W.subIn K (.ref (brC K)) (.type "ValueError") = some true) &&
  (decide (PySem.W.typeIn K (.ref (brC K)) = some (.type "type")) && (PySem.W.hasDictIn K (brC K) && (decide (PySem.W.ks_superIn K (brC K) (brC K) "__init__" = some (some (.builtin "ValueError.__init__"))) && (decide (PySem.W.mroIn K (brC K) (.ref (brC K)) = some true) &&
  (decide (PySem.W.nsIn K mainGlobals "super" = some none) && decide (PySem.W.nsIn K cStatics "thirdparty.any" = some none)))))))))))))))))
theorem brO_ok {K : PySem.W.Frag} {C : Addr} (q : brO K C = true) : ∃ nm q N bs bm sn sub ab col dd k0 k1 k2 k3 k5, K.lookup C = some (excClassObj nm q C N bs bm true sn sub ab col dd k0 k1 k2 k3 k5 "ValueError.__new__") ∧ PySem.HandSPX.refsVE bm = true := by
  unfold brO at q
  split at q
  · rename_i dd cd sl ho
    split at q
    · rename_i C' bm k0 k1 k2 k3 n k5 hm hs
      simp only [Bool.and_eq_true, beq_iff_eq, Bool.not_eq_true'] at q
      obtain ⟨rfl, rfl, hdel, hdi, ht⟩ := q
      obtain ⟨nm, bs, mro, ns, qn, hd, sn, sub, ab, col, del⟩ := cd
      obtain ⟨l⟩ := sl
      dsimp only at hm hdel hdi hs
      subst hm hdel hdi hs
      exact ⟨nm, qn, ns, bs, bm, sn, sub, ab, col, dd, k0, k1, k2, k3, k5, ho, ht⟩
    · cases q
  · cases q
/-- the text of __init__ at these places -/
structure BrP where
  p1 : Pos
  p2 : Pos
  p3 : Pos
  k : Nat
  q1 : Pos
  q2 : Pos
  q3 : Pos
  q4 : Pos
  q5 : Pos
  q6 : Pos
  r1 : Pos
  r2 : Pos
  r3 : Pos
  r4 : Pos
  t1 : Pos
  t2 : Pos
  t3 : Pos
  t4 : Pos
def BrP.body (b : BrP) : List Stmt := PySem.BR.iB "these rows write no book" b.k b.q1 b.q2 b.q3 b.q4 b.q5 b.q6 b.r1 b.r2 b.r3 b.r4 b.t1 b.t2 b.t3 b.t4
def BrP.w (b : BrP) : BrW := some (PySem.BR.iA b.p1 b.p2 b.p3, .stmts b.body, PySem.BR.iS)
theorem brB_ok {P : Program} {K : PySem.W.Frag} {pf : Str} {b : BrP} (h : brB pf K = true) (hw : brW K = b.w) (hl : (b.q3.endLine == b.q5.line) = true) (hf : (P.main.file : Str) = pf) (ht : (P.main.scope.names.lookup ("super" : Str)).isSome = false) : PySem.BR.Txt P K (brC K) (brI K) := by
  simp only [brB, Bool.and_eq_true, decide_eq_true_eq] at h
  obtain ⟨h1, h2, h3, h4, h5, h6, h7, h8, h9, h10, h11, h12, h13, h14, h15, h16, h17, h18⟩ := h
  refine ⟨brO_ok h1, h3, h4, h5, h6, h7, h8, h9, h10, h11, h12, h13, h14, h15, h16, h17, h18, ht, ?_⟩
  unfold brF at h2
  unfold brW at hw
  split at h2
  · rename_i oc od fd osl ho
    rw [ho] at hw
    dsimp only at hw
    obtain ⟨n1, n2, n3, n4, n5, n6, n7, n8, n9, n10, n11, n12, n13, n14, n15⟩ := fd
    simp only [Bool.and_eq_true, decide_eq_true_eq] at h2
    obtain ⟨e1, e2, e3, e4, e5, e6, h2⟩ := h2
    subst e1 e2 e3 e4 e5 e6
    unfold BrP.w at hw
    simp only [Option.some.injEq, Prod.mk.injEq] at hw
    obtain ⟨e7, e8, e9⟩ := hw
    subst e7 e8 e9
    split at h2
    · rename_i x cl0 cc cda
      simp only [Bool.and_eq_true, decide_eq_true_eq] at h2
      obtain ⟨e1, e2, e3, e4⟩ := h2
      subst e1
      split at e3
      · rename_i c1 d1 vs s1 g1
        split at e3
        · rename_i f tf gf
          have := of_decide_eq_true e3
          subst this
          split at e4
          · rename_i c2 d2 c s2 g2
            have ec := beq_iff_eq.mp e4
            subst ec
            exact ⟨oc, od, n10, n11, n12, cda, cc, n14, osl, b.p1, b.p2, b.p3, _, b.k, b.q1, b.q2, b.q3, b.q4, b.q5, b.q6, b.r1, b.r2, b.r3, b.r4, b.t1, b.t2, b.t3, b.t4, c1, d1, vs, s1, f, tf, c2, d2, s2, ho, e2, hl, g1, gf, by rw [hf]; exact beq_iff_eq.mpr rfl, g2⟩
          · cases e4
        · cases e3
      · cases e3
    · cases h2
  · cases h2
/-- the head's facts, BadRows among them -/
def frB (g : Addr → Option Obj) (n : Nat) : PySem.W.Frag := He.frG g (cStatics :: He.asD g n)
def hookB (n : Nat) (fa : List He.Fa) (fn : List He.DefD) (ex : PySem.W.Frag → Bool) (bv : BrW) : PySem.W.Hook where
  α := He.AlD × Bool × BrW
  obs := fun s => (He.obsD fa fn (frB s.heap.get? n), ex (frB s.heap.get? n), brW (frB s.heap.get? n))
  val := fun _ => (He.valD fn, true, bv)
  says := fun _ h => ∃ K : PySem.W.Frag, K.In h ∧ He.SaysD fa fn K ∧ ex K = true ∧ brW K = bv
  of := fun _ _ e => ⟨_, He.frG_in, congrArg Prod.fst e, congrArg (fun z => z.2.1) e, congrArg (fun z => z.2.2) e⟩
  keeps := fun _ _ _ ⟨K, hK, c⟩ k => ⟨K, PySem.W.Frag.In.keeps hK k, c⟩
def obsB (n : Nat) (fa : List He.Fa) (fn : List He.DefD) (ex : PySem.W.Frag → Bool) (g : Addr → Option Obj) : He.AlD × Bool × BrW := (He.obsD fa fn (frB g n), ex (frB g n), brW (frB g n))
theorem obsB_eq {n : Nat} {fa : List He.Fa} {fn : List He.DefD} {ex : PySem.W.Frag → Bool} {bv : BrW} {g : Addr → Option Obj} {s : Shared} (h : ∀ a, g a = s.heap.get? a) : obsB n fa fn ex g = (hookB n fa fn ex bv).obs s := by
  have e : g = s.heap.get? := funext h
  rw [e] <;> rfl
theorem xf_ok {P : Program} {K : PySem.W.Frag} {fI : Addr} (T : PySem.BR.Txt P K (brC K) fI) : XfC K (He.ga K "BadRows") := ⟨T.ga, T.gg, T.exC, T.hdC⟩
def tblN (l : List (Str × List (Str × Bool))) : Str → Str → Option Bool := fun c T => (l.find? fun q => decide (q.1 = c)).bind fun q => (q.2.find? fun z => decide (z.1 = T)).map fun z => z.2
def tblNB (l : List (Str × List (Str × Bool))) (K : PySem.W.Frag) : Bool := l.all fun q => excCB K (He.ga K q.1) && q.2.all fun z => decide (PySem.W.exmOne K (.ref (He.ga K q.1)) (clsV K z.1) = some z.2) && (decide (PySem.W.kitOne K (.ref (He.ga K q.1)) (clsV K z.1) = some z.2) && decide (PySem.W.kitOne K (.type "NoneType") (clsV K z.1) = some false))
theorem tblNB_ok {l : List (Str × List (Str × Bool))} {K : PySem.W.Frag} (h : tblNB l K = true) : XF K (tblN l) := by
  have g : ∀ c T b, tblN l c T = some b → excCB K (He.ga K c) = true ∧ PySem.W.exmOne K (.ref (He.ga K c)) (clsV K T) = some b ∧ PySem.W.kitOne K (.ref (He.ga K c)) (clsV K T) = some b ∧ PySem.W.kitOne K (.type "NoneType") (clsV K T) = some false := by
    intro c T b e
    unfold tblN at e
    obtain ⟨q, e1, e2⟩ := Option.bind_eq_some_iff.mp e
    obtain ⟨z, e3, e4⟩ := Option.map_eq_some_iff.mp e2
    have hm := List.mem_of_find?_eq_some e1
    have hp : q.1 = c := of_decide_eq_true (p := q.1 = c) (by simpa using List.find?_some e1)
    have hn := List.mem_of_find?_eq_some e3
    have hq : z.1 = T := of_decide_eq_true (p := z.1 = T) (by simpa using List.find?_some e3)
    obtain ⟨x1, x2⟩ := Bool.and_eq_true_iff.mp (List.all_eq_true.mp h q hm)
    have y := List.all_eq_true.mp x2 z hn
    simp only [Bool.and_eq_true, decide_eq_true_eq] at y
    rw [← hp, ← hq, ← e4]
    exact ⟨x1, y⟩
  exact ⟨fun c T b e => (g c T b e).2.1, fun c T b e => (g c T b e).2.2.1, fun c T b e => excCB_ok (g c T b e).1, fun c T b e => (g c T b e).2.2.2⟩
theorem names_VE {X : Cx} (hg : Gl X "ValueError") (hm : X.mg "ValueError" = none) : Names X "ValueError" (clsV X.kx "ValueError") := ⟨hg, by decide, .inr ⟨hm, by rw [show clsV X.kx.fr "ValueError" = .type "ValueError" from if_pos rfl]; exact PyProof.Rows.Boot.ValueError, by decide⟩⟩
end
end Ev
set_option linter.all false
set_option autoImplicit false
set_option maxRecDepth 100000
namespace LawC
open PySem PySem.Spec L2 Ev
open PyProof.Rows hiding St
noncomputable section
theorem le_line {n : Nat} : n ≤ lineN ↔ n ≤ 16777216 := by rw [lineN_eq]
theorem cdec_iff {p : Prop} : (cdec p = true) ↔ p := ⟨of_cdec, cdec_of⟩
theorem keepIo_none : keepIo none = none := rfl
theorem keepIo_sh (d : PyData) : keepIo (some (.sh d)) = none := rfl
theorem keepIo_ow (d : PyData) : keepIo (some (.ow d)) = none := rfl
theorem keepIo_ex (a : Addr) (c : Str) : keepIo (some (.ex a c)) = none := rfl
theorem keepIo_io (d : PyData) : keepIo (some (.io d)) = some (.io d) := rfl
theorem keepIo_lk (d : PyData) : keepIo (some (.lk d)) = some (.lk d) := rfl
theorem isNone_none : isNoneD .none = true := rfl
theorem isNone_bool (b : Bool) : isNoneD (.bool b) = false := rfl
theorem isNone_int (b : Int) : isNoneD (.int b) = false := rfl
theorem isNone_str (b : Str) : isNoneD (.str b) = false := rfl
theorem isNone_list (b : List PyData) : isNoneD (.list b) = false := rfl
theorem isNone_tuple (b : List PyData) : isNoneD (.tuple b) = false := rfl
theorem plK_none : plainK .none = true := rfl
theorem plK_bool (b : Bool) : plainK (.bool b) = true := rfl
theorem plK_int (b : Int) : plainK (.int b) = true := rfl
theorem plK_str (b : Str) : plainK (.str b) = true := rfl
theorem plK_list (b : List PyData) : plainK (.list b) = true := rfl
theorem plK_tuple (b : List PyData) : plainK (.tuple b) = true := rfl
theorem fEqX_int (i j : Int) : fEqX (.int i) (.int j) = some (.sh (.bool (decide (i = j)))) := fEq_int i j
theorem fNeX_int (i j : Int) : fNeX (.int i) (.int j) = some (.sh (.bool (!decide (i = j)))) := fNe_int i j
theorem fEqX_str (i j : Str) : fEqX (.str i) (.str j) = some (.sh (.bool (decide (i = j)))) := rfl
theorem fNeX_str (i j : Str) : fNeX (.str i) (.str j) = some (.sh (.bool (!decide (i = j)))) := rfl
theorem fEqX_bool (i j : Bool) : fEqX (.bool i) (.bool j) = some (.sh (.bool (i == j))) := by
  have e : (PyData.bool i).eqv (.bool j) = (i == j) := by simp only [PyData.eqv]
  simp [fEqX, fEq, shp_bool, e]
theorem fNeX_bool (i j : Bool) : fNeX (.bool i) (.bool j) = some (.sh (.bool (i != j))) := by
  have e : (PyData.bool i).eqv (.bool j) = (i == j) := by simp only [PyData.eqv]
  simp [fNeX, fNe, shp_bool, e, bne]
theorem eqA_str (f : PyData → PyData → Option Res) (c : Bool) (i j : Str) : eqA f c (.str i) (.str j) = f (.str i) (.str j) := rfl
theorem eqA_intr (f : PyData → PyData → Option Res) (c : Bool) (d : PyData) (j : Int) : eqA f c d (.int j) = f d (.int j) := rfl
theorem eqA_boolr (f : PyData → PyData → Option Res) (c : Bool) (d : PyData) (j : Bool) : eqA f c d (.bool j) = f d (.bool j) := rfl
theorem eqA_listr (f : PyData → PyData → Option Res) (c : Bool) (d : PyData) (j : List PyData) : eqA f c d (.list j) = f d (.list j) := rfl
theorem eqA_nil (f : PyData → PyData → Option Res) (c : Bool) (ds : List PyData) : eqA f c (.tuple ds) (.tuple []) = some (.sh (.bool (xor c ds.isEmpty))) := rfl
theorem fIxX_list (ds : List PyData) (e : PyData) : fIxX (.list ds) e = fIx (.list ds) e := rfl
theorem fIxX_tuple (ds : List PyData) (e : PyData) : fIxX (.tuple ds) e = fIx (.tuple ds) e := rfl
theorem evLc_of {os : List Opd} {mk : List PyData → Option (List PyData)} {t : Tg} {vs : List Nat} {tt : Tv} {te : Ev} {ρ ρ1 ρ2 ρ3 : Ev.Env} {as : List Ev.Arg} {ds items acc : List PyData} (h1 : evOs os ρ = .ok as ρ1) (h2 : looks ρ1 as = some ds) (h3 : mk ds = some items) (h4 : calmB ρ1 vs = true) (h5 : items.length ≤ 16777216)
    (h6 : lcGo t vs tt te items [] (wipeE (lks as ρ1) vs) = .ok acc ρ2) (h7 : restE ρ1 (uns as ρ1 ρ2) vs = ρ3) : evLc os mk t vs tt te ρ = .ok (.ow (.list acc)) ρ3 := by
  unfold evLc
  rw [h1]
  dsimp only
  rw [h2]
  dsimp only
  rw [h3]
  dsimp only
  rw [if_pos ⟨h4, le_line.mpr h5⟩, h6]
  dsimp only
  rw [h7]
/-- each item of what is walked becomes one item -/
theorem evLc_map {os : List Opd} {mk : List PyData → Option (List PyData)} {t : Tg} {vs : List Nat} {te : Ev} {ρ ρ1 ρ2 ρ3 : Ev.Env} {as : List Ev.Arg} {ds items : List PyData} (g : PyData → PyData) (h1 : evOs os ρ = .ok as ρ1) (h2 : looks ρ1 as = some ds) (h3 : mk ds = some items) (h4 : calmB ρ1 vs = true) (h5 : items.length ≤ 16777216)
    (hw : wipeE (lks as ρ1) vs = ρ2) (h6 : ∀ d ∈ items, ∃ ρa, bindT t d ρ2 = some ρa ∧ ∃ r ρb, te ρa = .ok r ρb ∧ r.d = g d ∧ wipeE ρb vs = ρ2) (h7 : restE ρ1 (uns as ρ1 ρ2) vs = ρ3) : evLc os mk t vs tvYes te ρ = .ok (.ow (.list (items.map g))) ρ3 := by
  refine evLc_of h1 h2 h3 h4 h5 ?_ h7
  have q := lcGo_map (t := t) (vs := vs) (tt := tvYes) (te := te) (ρ0 := ρ2) g items [] fun d hd => by
    obtain ⟨ρa, e1, r, ρb, e2, e3, e4⟩ := h6 d hd
    exact ⟨ρa, ρa, e1, rfl, r, ρb, e2, e3, e4⟩
  rw [hw]
  simpa using q
theorem evFor_next {os : List Opd} {mk : List PyData → Option (List PyData)} {t : Tg} {body : EvS} {ρ ρ1 ρ2 ρ3 : Ev.Env} {as : List Ev.Arg} {ds items : List PyData} (h1 : evOs os ρ = .ok as ρ1) (h2 : looks ρ1 as = some ds) (h3 : mk ds = some items) (h4 : forGo t body items (lks as ρ1) = .next ρ2) (h5 : uns as ρ1 ρ2 = ρ3) : evFor os mk t body ρ = .next ρ3 := by
  rw [← h5]
  exact evFor_run h1 h2 h3 h4
theorem e62 : (2 : Int) ^ 62 = 4611686018427387904 := by decide
theorem kR1 {n : Nat} (h : n ≤ 16777216) : kRange1 [.int (n : Int)] = some (rgI 0 n) := by
  have q : kRange1 [.int (n : Int)] = if -p62 ≤ (n : Int) ∧ (n : Int) < p62 then some (rgI 0 (n : Int).toNat) else none := rfl
  rw [q, p62_eq, e62, if_pos ⟨by omega, by omega⟩, Int.toNat_natCast]
theorem rgI_map0 (n : Nat) : rgI 0 n = (List.range n).map fun i : Nat => .int (i : Int) := by
  simp [rgI]
end
end LawC
local macro_rules | `(tactic| simp! [$ts,*]) => `(tactic| simp [LawC.plK_none, LawC.plK_bool, LawC.plK_int, LawC.plK_str, LawC.plK_list, LawC.plK_tuple, Ev.lineN_eq, Ev.n64_eq, LawC.cdec_iff, Ev.mkF, Ev.trimO, Ev.trimE, LawC.keepIo_none, LawC.keepIo_sh, LawC.keepIo_ow, LawC.keepIo_io, LawC.keepIo_lk, LawC.keepIo_ex, Ev.entry, Ev.sSeq, Ev.sNil, Ev.sRet, Ev.sIf, Ev.sEx, Ev.sAsg, Ev.sSet, Ev.sRaise, Ev.sPar, Ev.evRs, Ev.bindRs, Ev.bindR, Ev.evC, Ev.evVar, Ev.evMv, Ev.evPm, Ev.evOs, Ev.evO, Ev.looks, Ev.look, Ev.pm1, Ev.pm2, Ev.evAnd, Ev.evOr, Ev.evNot, Ev.evIf, Ev.boolR, Ev.tvOf, Ev.tvAnd, Ev.tvOr, Ev.tvNot, Ev.truthD, Ev.Res.d, Ev.Sl.d, Ev.putR, Ev.free_none, Ev.free_sh, Ev.free_ow, Ev.free_ex, Ev.free_io, Ev.free_lk, Ev.Res.sl, Ev.pLen, Ev.pList, Ev.pTuple, Ev.pInt, Ev.pMax2, Ev.pMin2, Ev.pTup, Ev.pLst, Ev.pIsi, Ev.pIsiT, Ev.tyD, Ev.isTy, Ev.evCall, Ev.argSls, Ev.argSl, Ev.apart, Ev.clash, Ev.backA, Ev.Sl.wr, Ev.Sl.to, Ev.evMut, LawC.fEqX_int, LawC.fNeX_int, LawC.fEqX_str, LawC.fNeX_str, LawC.eqA_str, LawC.eqA_intr, LawC.eqA_boolr, LawC.eqA_listr, LawC.eqA_nil, LawC.fIxX_list, LawC.fIxX_tuple, Ev.fIx, Ev.fCmp, Ev.fAdd, Ev.fInt, Ev.fIntC, Ev.mSet, Ev.powB, Ev.isL, Ev.evIntK, Ev.evCh, Ev.evInt, Ev.fIs, Ev.fIsN, LawC.isNone_none, LawC.isNone_bool, LawC.isNone_int, LawC.isNone_str, LawC.isNone_list, LawC.isNone_tuple, Ev.evMeth, Ev.fNeg, $ts,*])
set_option linter.all false
set_option autoImplicit false
set_option maxRecDepth 100000
namespace LawS
open PySem PySem.Spec L2 Ev
mutual
def sw : PyData → Nat
  | .none => 4
  | .bool _ => 5
  | .int i => i.natAbs.log2 + 2
  | .str x => (reprText x).length
  | .list xs => swA xs + 2
  | .tuple xs => swA xs + 3
  | .dict _ => 0
def swA : List PyData → Nat
  | [] => 0
  | x :: xs => sw x + 2 + swA xs
end
mutual
theorem shown_le : ∀ d : PyData, d.canLay0 = true → d.shown.length ≤ sw d
  | .none, _ => by rw [PyData.shown_none]; exact Nat.le_of_eq rfl
  | .bool b, _ => by rw [PyData.shown_bool]; cases b <;> decide
  | .int i, _ => by
    rw [PyData.shown_int, ofString_length]
    have := int_text_length_le (a := i) (k := i.natAbs.log2 + 1) (by omega) (by omega)
    simp only [sw]
    omega
  | .str x, _ => by rw [PyData.shown_str]; simp [sw]
  | .list xs, h => by
    have ih := shownAll_le xs (by simpa [PyData.canLay0] using h)
    rw [PyData.shown_list, Str.length_append, Str.length_append]
    have j := StrLaws.join_length_le ", " (PyData.shownAll xs)
    have e1 : (Str.ofString "[").length = 1 := by decide
    have e2 : (Str.ofString "]").length = 1 := by decide
    have e3 : (Str.ofString ", ").length = 2 := by decide
    simp only [sw]
    rw [e3] at j
    omega
  | .tuple xs, h => by
    have ih := shownAll_le xs (by simpa [PyData.canLay0] using h)
    rw [PyData.shown_tuple, Str.length_append, Str.length_append]
    have j := StrLaws.join_length_le ", " (PyData.shownAll xs)
    have e1 : (Str.ofString "(").length = 1 := by decide
    have e2 : (Str.ofString (if (xs.length == 1) = true then ",)" else ")")).length ≤ 2 := by split <;> decide
    have e3 : (Str.ofString ", ").length = 2 := by decide
    simp only [sw]
    rw [e3] at j
    omega
  | .dict _, h => by simp [PyData.canLay0] at h
theorem shownAll_le : ∀ ds : List PyData, PyData.canLayAll0 ds = true → ((PyData.shownAll ds).map (·.length)).sum + (PyData.shownAll ds).length * 2 ≤ swA ds
  | [], _ => by simp [PyData.shownAll_nil, swA]
  | d :: ds, h => by
    simp only [PyData.canLayAll0, Bool.and_eq_true] at h
    have i1 := shown_le d h.1
    have i2 := shownAll_le ds h.2
    rw [PyData.shownAll_cons]
    simp only [List.map_cons, List.sum_cons, List.length_cons, swA]
    omega
end
end LawS
set_option linter.all false
set_option autoImplicit false
namespace L00
open PySem PySem.Spec L2 Ev
open PyProof.Rows hiding St
noncomputable section
def tblL : List (Str × List (Str × Bool)) := [("BadBook", [("BadBook", true), ("BadCommand", false), ("BadCount", false), ("BadExamples", false), ("BadForm", false), ("BadKind", false), ("BadLinks", false), ("BadName", false), ("BadNumber", false), ("BadNumbers", false), ("BadOrder", false), ("BadPaper", false), ("BadPlace", false), ("BadReading", false), ("BadRows", false), ("BadRule", false), ("BadSide", false), ("BadTerm", false), ("BadText", false), ("BadWord", false), ("BadWorld", false), ("Full", false), ("Needed", false), ("NoPair", false), ("NothingToUndo", false), ("TongueError", true), ("TooMany", false), ("ValueError", true)]),
  ("BadCommand", [("BadBook", false), ("BadCommand", true), ("BadCount", false), ("BadExamples", false), ("BadForm", false), ("BadKind", false), ("BadLinks", false), ("BadName", false), ("BadNumber", false), ("BadNumbers", false), ("BadOrder", false), ("BadPaper", false), ("BadPlace", false), ("BadReading", false), ("BadRows", false), ("BadRule", false), ("BadSide", false), ("BadTerm", false), ("BadText", false), ("BadWord", false), ("BadWorld", false), ("Full", false), ("Needed", false), ("NoPair", false), ("NothingToUndo", false), ("TongueError", true), ("TooMany", false), ("ValueError", true)]),
  ("BadCount", [("BadBook", false), ("BadCommand", false), ("BadCount", true), ("BadExamples", false), ("BadForm", false), ("BadKind", false), ("BadLinks", false), ("BadName", false), ("BadNumber", false), ("BadNumbers", false), ("BadOrder", false), ("BadPaper", false), ("BadPlace", false), ("BadReading", false), ("BadRows", false), ("BadRule", false), ("BadSide", false), ("BadTerm", false), ("BadText", false), ("BadWord", false), ("BadWorld", false), ("Full", false), ("Needed", false), ("NoPair", false), ("NothingToUndo", false), ("TongueError", true), ("TooMany", false), ("ValueError", true)]),
  ("BadExamples", [("BadBook", false), ("BadCommand", false), ("BadCount", false), ("BadExamples", true), ("BadForm", false), ("BadKind", false), ("BadLinks", false), ("BadName", false), ("BadNumber", false), ("BadNumbers", false), ("BadOrder", false), ("BadPaper", false), ("BadPlace", false), ("BadReading", false), ("BadRows", false), ("BadRule", false), ("BadSide", false), ("BadTerm", false), ("BadText", false), ("BadWord", false), ("BadWorld", false), ("Full", false), ("Needed", false), ("NoPair", false), ("NothingToUndo", false), ("TongueError", true), ("TooMany", false), ("ValueError", true)]),
  ("BadForm", [("BadBook", false), ("BadCommand", false), ("BadCount", false), ("BadExamples", false), ("BadForm", true), ("BadKind", false), ("BadLinks", false), ("BadName", false), ("BadNumber", false), ("BadNumbers", false), ("BadOrder", false), ("BadPaper", false), ("BadPlace", false), ("BadReading", false), ("BadRows", false), ("BadRule", false), ("BadSide", false), ("BadTerm", false), ("BadText", false), ("BadWord", false), ("BadWorld", false), ("Full", false), ("Needed", false), ("NoPair", false), ("NothingToUndo", false), ("TongueError", true), ("TooMany", false), ("ValueError", true)]),
  ("BadKind", [("BadBook", false), ("BadCommand", false), ("BadCount", false), ("BadExamples", false), ("BadForm", false), ("BadKind", true), ("BadLinks", false), ("BadName", false), ("BadNumber", false), ("BadNumbers", false), ("BadOrder", false), ("BadPaper", false), ("BadPlace", false), ("BadReading", false), ("BadRows", false), ("BadRule", false), ("BadSide", false), ("BadTerm", false), ("BadText", false), ("BadWord", false), ("BadWorld", false), ("Full", false), ("Needed", false), ("NoPair", false), ("NothingToUndo", false), ("TongueError", true), ("TooMany", false), ("ValueError", true)]),
  ("BadLinks", [("BadBook", false), ("BadCommand", false), ("BadCount", false), ("BadExamples", false), ("BadForm", false), ("BadKind", false), ("BadLinks", true), ("BadName", false), ("BadNumber", false), ("BadNumbers", false), ("BadOrder", false), ("BadPaper", false), ("BadPlace", false), ("BadReading", false), ("BadRows", false), ("BadRule", false), ("BadSide", false), ("BadTerm", false), ("BadText", false), ("BadWord", false), ("BadWorld", false), ("Full", false), ("Needed", false), ("NoPair", false), ("NothingToUndo", false), ("TongueError", true), ("TooMany", false), ("ValueError", true)]),
  ("BadName", [("BadBook", false), ("BadCommand", false), ("BadCount", false), ("BadExamples", false), ("BadForm", false), ("BadKind", false), ("BadLinks", false), ("BadName", true), ("BadNumber", false), ("BadNumbers", false), ("BadOrder", false), ("BadPaper", false), ("BadPlace", false), ("BadReading", false), ("BadRows", false), ("BadRule", false), ("BadSide", false), ("BadTerm", false), ("BadText", false), ("BadWord", false), ("BadWorld", false), ("Full", false), ("Needed", false), ("NoPair", false), ("NothingToUndo", false), ("TongueError", true), ("TooMany", false), ("ValueError", true)]),
  ("BadNumber", [("BadBook", false), ("BadCommand", false), ("BadCount", false), ("BadExamples", false), ("BadForm", false), ("BadKind", false), ("BadLinks", false), ("BadName", false), ("BadNumber", true), ("BadNumbers", false), ("BadOrder", false), ("BadPaper", false), ("BadPlace", false), ("BadReading", false), ("BadRows", false), ("BadRule", false), ("BadSide", false), ("BadTerm", false), ("BadText", false), ("BadWord", false), ("BadWorld", false), ("Full", false), ("Needed", false), ("NoPair", false), ("NothingToUndo", false), ("TongueError", true), ("TooMany", false), ("ValueError", true)]),
  ("BadNumbers", [("BadBook", false), ("BadCommand", false), ("BadCount", false), ("BadExamples", false), ("BadForm", false), ("BadKind", false), ("BadLinks", false), ("BadName", false), ("BadNumber", false), ("BadNumbers", true), ("BadOrder", false), ("BadPaper", false), ("BadPlace", false), ("BadReading", false), ("BadRows", false), ("BadRule", false), ("BadSide", false), ("BadTerm", false), ("BadText", false), ("BadWord", false), ("BadWorld", false), ("Full", false), ("Needed", false), ("NoPair", false), ("NothingToUndo", false), ("TongueError", true), ("TooMany", false), ("ValueError", true)]),
  ("BadOrder", [("BadBook", false), ("BadCommand", false), ("BadCount", false), ("BadExamples", false), ("BadForm", false), ("BadKind", false), ("BadLinks", false), ("BadName", false), ("BadNumber", false), ("BadNumbers", false), ("BadOrder", true), ("BadPaper", false), ("BadPlace", false), ("BadReading", false), ("BadRows", false), ("BadRule", false), ("BadSide", false), ("BadTerm", false), ("BadText", false), ("BadWord", false), ("BadWorld", false), ("Full", false), ("Needed", false), ("NoPair", false), ("NothingToUndo", false), ("TongueError", true), ("TooMany", false), ("ValueError", true)]),
  ("BadPaper", [("BadBook", false), ("BadCommand", false), ("BadCount", false), ("BadExamples", false), ("BadForm", false), ("BadKind", false), ("BadLinks", false), ("BadName", false), ("BadNumber", false), ("BadNumbers", false), ("BadOrder", false), ("BadPaper", true), ("BadPlace", false), ("BadReading", false), ("BadRows", false), ("BadRule", false), ("BadSide", false), ("BadTerm", false), ("BadText", false), ("BadWord", false), ("BadWorld", false), ("Full", false), ("Needed", false), ("NoPair", false), ("NothingToUndo", false), ("TongueError", true), ("TooMany", false), ("ValueError", true)]),
  ("BadPlace", [("BadBook", false), ("BadCommand", false), ("BadCount", false), ("BadExamples", false), ("BadForm", false), ("BadKind", false), ("BadLinks", false), ("BadName", false), ("BadNumber", false), ("BadNumbers", false), ("BadOrder", false), ("BadPaper", false), ("BadPlace", true), ("BadReading", false), ("BadRows", false), ("BadRule", false), ("BadSide", false), ("BadTerm", false), ("BadText", false), ("BadWord", false), ("BadWorld", false), ("Full", false), ("Needed", false), ("NoPair", false), ("NothingToUndo", false), ("TongueError", true), ("TooMany", false), ("ValueError", true)]),
  ("BadReading", [("BadBook", false), ("BadCommand", false), ("BadCount", false), ("BadExamples", false), ("BadForm", false), ("BadKind", false), ("BadLinks", false), ("BadName", false), ("BadNumber", false), ("BadNumbers", false), ("BadOrder", false), ("BadPaper", false), ("BadPlace", false), ("BadReading", true), ("BadRows", false), ("BadRule", false), ("BadSide", false), ("BadTerm", false), ("BadText", false), ("BadWord", false), ("BadWorld", false), ("Full", false), ("Needed", false), ("NoPair", false), ("NothingToUndo", false), ("TongueError", true), ("TooMany", false), ("ValueError", true)]),
  ("BadRows", [("BadBook", false), ("BadCommand", false), ("BadCount", false), ("BadExamples", false), ("BadForm", false), ("BadKind", false), ("BadLinks", false), ("BadName", false), ("BadNumber", false), ("BadNumbers", false), ("BadOrder", false), ("BadPaper", false), ("BadPlace", false), ("BadReading", false), ("BadRows", true), ("BadRule", false), ("BadSide", false), ("BadTerm", false), ("BadText", false), ("BadWord", false), ("BadWorld", false), ("Full", false), ("Needed", false), ("NoPair", false), ("NothingToUndo", false), ("TongueError", true), ("TooMany", false), ("ValueError", true)]),
  ("BadRule", [("BadBook", false), ("BadCommand", false), ("BadCount", false), ("BadExamples", false), ("BadForm", false), ("BadKind", false), ("BadLinks", false), ("BadName", false), ("BadNumber", false), ("BadNumbers", false), ("BadOrder", false), ("BadPaper", false), ("BadPlace", false), ("BadReading", false), ("BadRows", false), ("BadRule", true), ("BadSide", false), ("BadTerm", false), ("BadText", false), ("BadWord", false), ("BadWorld", false), ("Full", false), ("Needed", false), ("NoPair", false), ("NothingToUndo", false), ("TongueError", true), ("TooMany", false), ("ValueError", true)]),
  ("BadSide", [("BadBook", false), ("BadCommand", false), ("BadCount", false), ("BadExamples", false), ("BadForm", false), ("BadKind", false), ("BadLinks", false), ("BadName", false), ("BadNumber", false), ("BadNumbers", false), ("BadOrder", false), ("BadPaper", false), ("BadPlace", false), ("BadReading", false), ("BadRows", false), ("BadRule", false), ("BadSide", true), ("BadTerm", false), ("BadText", false), ("BadWord", false), ("BadWorld", false), ("Full", false), ("Needed", false), ("NoPair", false), ("NothingToUndo", false), ("TongueError", true), ("TooMany", false), ("ValueError", true)]),
  ("BadTerm", [("BadBook", false), ("BadCommand", false), ("BadCount", false), ("BadExamples", false), ("BadForm", false), ("BadKind", false), ("BadLinks", false), ("BadName", false), ("BadNumber", false), ("BadNumbers", false), ("BadOrder", false), ("BadPaper", false), ("BadPlace", false), ("BadReading", false), ("BadRows", false), ("BadRule", false), ("BadSide", false), ("BadTerm", true), ("BadText", false), ("BadWord", false), ("BadWorld", false), ("Full", false), ("Needed", false), ("NoPair", false), ("NothingToUndo", false), ("TongueError", true), ("TooMany", false), ("ValueError", true)]),
  ("BadText", [("BadBook", false), ("BadCommand", false), ("BadCount", false), ("BadExamples", false), ("BadForm", false), ("BadKind", false), ("BadLinks", false), ("BadName", false), ("BadNumber", false), ("BadNumbers", false), ("BadOrder", false), ("BadPaper", false), ("BadPlace", false), ("BadReading", false), ("BadRows", false), ("BadRule", false), ("BadSide", false), ("BadTerm", false), ("BadText", true), ("BadWord", false), ("BadWorld", false), ("Full", false), ("Needed", false), ("NoPair", false), ("NothingToUndo", false), ("TongueError", true), ("TooMany", false), ("ValueError", true)]),
  ("BadWord", [("BadBook", false), ("BadCommand", false), ("BadCount", false), ("BadExamples", false), ("BadForm", false), ("BadKind", false), ("BadLinks", false), ("BadName", false), ("BadNumber", false), ("BadNumbers", false), ("BadOrder", false), ("BadPaper", false), ("BadPlace", false), ("BadReading", false), ("BadRows", false), ("BadRule", false), ("BadSide", false), ("BadTerm", false), ("BadText", false), ("BadWord", true), ("BadWorld", false), ("Full", false), ("Needed", false), ("NoPair", false), ("NothingToUndo", false), ("TongueError", true), ("TooMany", false), ("ValueError", true)]),
  ("BadWorld", [("BadBook", false), ("BadCommand", false), ("BadCount", false), ("BadExamples", false), ("BadForm", false), ("BadKind", false), ("BadLinks", false), ("BadName", false), ("BadNumber", false), ("BadNumbers", false), ("BadOrder", false), ("BadPaper", false), ("BadPlace", false), ("BadReading", false), ("BadRows", false), ("BadRule", false), ("BadSide", false), ("BadTerm", false), ("BadText", false), ("BadWord", false), ("BadWorld", true), ("Full", false), ("Needed", false), ("NoPair", false), ("NothingToUndo", false), ("TongueError", true), ("TooMany", false), ("ValueError", true)]),
  ("Full", [("BadBook", false), ("BadCommand", false), ("BadCount", false), ("BadExamples", false), ("BadForm", false), ("BadKind", false), ("BadLinks", false), ("BadName", false), ("BadNumber", false), ("BadNumbers", false), ("BadOrder", false), ("BadPaper", false), ("BadPlace", false), ("BadReading", false), ("BadRows", false), ("BadRule", false), ("BadSide", false), ("BadTerm", false), ("BadText", false), ("BadWord", false), ("BadWorld", false), ("Full", true), ("Needed", false), ("NoPair", false), ("NothingToUndo", false), ("TongueError", true), ("TooMany", false), ("ValueError", true)]),
  ("Needed", [("BadBook", false), ("BadCommand", false), ("BadCount", false), ("BadExamples", false), ("BadForm", false), ("BadKind", false), ("BadLinks", false), ("BadName", false), ("BadNumber", false), ("BadNumbers", false), ("BadOrder", false), ("BadPaper", false), ("BadPlace", false), ("BadReading", false), ("BadRows", false), ("BadRule", false), ("BadSide", false), ("BadTerm", false), ("BadText", false), ("BadWord", false), ("BadWorld", false), ("Full", false), ("Needed", true), ("NoPair", false), ("NothingToUndo", false), ("TongueError", true), ("TooMany", false), ("ValueError", true)]),
  ("NoPair", [("BadBook", false), ("BadCommand", false), ("BadCount", false), ("BadExamples", false), ("BadForm", false), ("BadKind", false), ("BadLinks", false), ("BadName", false), ("BadNumber", false), ("BadNumbers", false), ("BadOrder", false), ("BadPaper", false), ("BadPlace", false), ("BadReading", false), ("BadRows", false), ("BadRule", false), ("BadSide", false), ("BadTerm", false), ("BadText", false), ("BadWord", false), ("BadWorld", false), ("Full", false), ("Needed", false), ("NoPair", true), ("NothingToUndo", false), ("TongueError", true), ("TooMany", false), ("ValueError", true)]),
  ("NothingToUndo", [("BadBook", false), ("BadCommand", false), ("BadCount", false), ("BadExamples", false), ("BadForm", false), ("BadKind", false), ("BadLinks", false), ("BadName", false), ("BadNumber", false), ("BadNumbers", false), ("BadOrder", false), ("BadPaper", false), ("BadPlace", false), ("BadReading", false), ("BadRows", false), ("BadRule", false), ("BadSide", false), ("BadTerm", false), ("BadText", false), ("BadWord", false), ("BadWorld", false), ("Full", false), ("Needed", false), ("NoPair", false), ("NothingToUndo", true), ("TongueError", true), ("TooMany", false), ("ValueError", true)]),
  ("TongueError", [("BadBook", false), ("BadCommand", false), ("BadCount", false), ("BadExamples", false), ("BadForm", false), ("BadKind", false), ("BadLinks", false), ("BadName", false), ("BadNumber", false), ("BadNumbers", false), ("BadOrder", false), ("BadPaper", false), ("BadPlace", false), ("BadReading", false), ("BadRows", false), ("BadRule", false), ("BadSide", false), ("BadTerm", false), ("BadText", false), ("BadWord", false), ("BadWorld", false), ("Full", false), ("Needed", false), ("NoPair", false), ("NothingToUndo", false), ("TongueError", true), ("TooMany", false), ("ValueError", true)]),
  ("TooMany", [("BadBook", false), ("BadCommand", false), ("BadCount", false), ("BadExamples", false), ("BadForm", false), ("BadKind", false), ("BadLinks", false), ("BadName", false), ("BadNumber", false), ("BadNumbers", false), ("BadOrder", false), ("BadPaper", false), ("BadPlace", false), ("BadReading", false), ("BadRows", false), ("BadRule", false), ("BadSide", false), ("BadTerm", false), ("BadText", false), ("BadWord", false), ("BadWorld", false), ("Full", false), ("Needed", false), ("NoPair", false), ("NothingToUndo", false), ("TongueError", true), ("TooMany", true), ("ValueError", true)])]
def tbl : Str → Str → Option Bool := tblN tblL
def conL : List (Str × PyData) := []
def FTl : List (Str × Str) := []
def FT : Str → Str → Bool := ftF FTl
/-- _law_flags(_law_e); slots: 0 _law_e, 1 _law_first -/
def ev__law_flags : EvS := sSeq (sAsg 1 (evPm pLst ([evPm (pIsG tbl "BadBook") [.pl 0], evPm (pIsG tbl "BadText") [.pl 0], evPm (pIsG tbl "BadSide") [.pl 0], evPm (pIsG tbl "BadRows") [.pl 0], evPm (pIsG tbl "BadNumber") [.pl 0]].map .ex))) (sSeq (sAsg 1 (evPm (pm2 fAdd) [.pl 1, .ex (evPm pLst ([evPm (pIsG tbl "BadName") [.pl 0], evPm (pIsG tbl "BadForm") [.pl 0], evPm (pIsG tbl "BadWord") [.pl 0], evPm (pIsG tbl "BadReading") [.pl 0]].map .ex))])) (sSeq (sAsg 1 (evPm (pm2 fAdd) [.pl 1, .ex (evPm pLst ([evPm (pIsG tbl "BadPaper") [.pl 0], evPm (pIsG tbl "BadCount") [.pl 0], evPm (pIsG tbl "BadLinks") [.pl 0], evPm (pIsG tbl "NoPair") [.pl 0]].map .ex))])) (sSeq (sAsg 1 (evPm (pm2 fAdd) [.pl 1, .ex (evPm pLst ([evPm (pIsG tbl "BadPlace") [.pl 0], evPm (pIsG tbl "BadOrder") [.pl 0], evPm (pIsG tbl "BadWorld") [.pl 0], evPm (pIsG tbl "BadTerm") [.pl 0]].map .ex))])) (sSeq (sAsg 1 (evPm (pm2 fAdd) [.pl 1, .ex (evPm pLst ([evPm (pIsG tbl "BadKind") [.pl 0], evPm (pIsG tbl "BadNumbers") [.pl 0], evPm (pIsG tbl "BadExamples") [.pl 0], evPm (pIsG tbl "BadRule") [.pl 0]].map .ex))])) (sSeq (sAsg 1 (evPm (pm2 fAdd) [.pl 1, .ex (evPm pLst ([evPm (pIsG tbl "Needed") [.pl 0], evPm (pIsG tbl "NothingToUndo") [.pl 0], evPm (pIsG tbl "Full") [.pl 0], evPm (pIsG tbl "BadCommand") [.pl 0]].map .ex))])) (sRet (evPm (pm2 fAdd) [.pl 1, .ex (evPm pLst ([evPm (pIsG tbl "TooMany") [.pl 0]].map .ex))])))))))
def F__law_flags : FnV := mkF 1 ev__law_flags
/-- _law_is_caught(_law_number, _law_text); slots: 0 _law_number, 1 _law_text -/
def ev__law_is_caught : EvS := evTryM tbl [("BadBook", sRet (evPm (pm2 fEqX) [.pl 0, .ex (evC (.int 0))])), ("BadText", sRet (evPm (pm2 fEqX) [.pl 0, .ex (evC (.int 1))])), ("BadSide", sRet (evPm (pm2 fEqX) [.pl 0, .ex (evC (.int 2))])), ("BadNumber", sRet (evPm (pm2 fEqX) [.pl 0, .ex (evC (.int 4))])), ("BadName", sRet (evPm (pm2 fEqX) [.pl 0, .ex (evC (.int 5))])), ("TooMany", sRet (evPm (pm2 (fInX true)) [.pl 0, .ex (evPm pLst ([evC (.int 0), evC (.int 1), evC (.int 2), evC (.int 4), evC (.int 5)].map .ex))]))] (sSeq (sIf (tvOf (evPm (pm2 fEqX) [.pl 0, .ex (evC (.int 0))])) (sRaiseE "BadBook" (.pl 1)) (sNil)) (sSeq (sIf (tvOf (evPm (pm2 fEqX) [.pl 0, .ex (evC (.int 1))])) (sRaiseE "BadText" (.pl 1)) (sNil)) (sSeq (sIf (tvOf (evPm (pm2 fEqX) [.pl 0, .ex (evC (.int 2))])) (sRaiseE "BadSide" (.pl 1)) (sNil)) (sSeq (sIf (tvOf (evPm (pm2 fEqX) [.pl 0, .ex (evC (.int 4))])) (sRaiseE "BadNumber" (.pl 1)) (sNil)) (sSeq (sIf (tvOf (evPm (pm2 fEqX) [.pl 0, .ex (evC (.int 5))])) (sRaiseE "BadName" (.pl 1)) (sNil)) (sRaiseE "TooMany" (.pl 1)))))))
def F__law_is_caught : FnV := mkF 0 ev__law_is_caught
/-- _law_is_base_caught(_law_row, _law_word); slots: 0 _law_row, 1 _law_word, 2 _law_e -/
def ev__law_is_base_caught : EvS := evBaseC 2 0 1
def F__law_is_base_caught : FnV := mkF 1 ev__law_is_base_caught
def b_law_1 : EvS := sSeq (sIf (tvOr (tvNot (tvOf (evPm (pIsG tbl "TongueError") [.pl 7]))) (tvNot (tvOf (evPm (pIsG tbl "ValueError") [.pl 7])))) (sRet (evC (.bool false))) (sNil)) (sIf (tvOf (evPm (pm2 fNeX) [.ex (evCall F__law_flags [.pl 7]), .ex (evLc [.ex (evPm pLen [.pl 5])] kRange1 (.nm 8) [8] (tvYes) (evPm (pm2 fEqX) [.pl 8, .pl 6]))])) (sRet (evC (.bool false))) (sNil))
/-- law(_law_script); slots: 0 _law_script, 1 _law_number, 2 _law_text, 3 _law_row, 4 _law_word, 5 _law_made, 6 _law_at, 7 _law_e, 8 _law_k, 9 _law_base, 10 _law_other -/
def ev_law : EvS := sSeq (sAsg 1 (evPm pSum [.ex (evPm pSl01 [.pl 0, .ex (evC (.int 1))])])) (sSeq (sPar [.nm 2, .nm 3, .nm 4] [evPm (pm2 fAdd) [.ex (evC (.str "t")), .ex (evPm pStrI [.ex (evPm (pm2 fMod) [.ex (evPm pInt [.pl 1]), .ex (evC (.int 1000))])])], evPm (pm2 fMod) [.ex (evPm pInt [.pl 1]), .ex (evC (.int 997))], evPm (pm2 fMod) [.ex (evPm pInt [.ex (evPm (pm2 fDiv) [.pl 1, .ex (evC (.int 7))])]), .ex (evC (.int 89))]]) (sSeq (sAsg 5 (evPm pLst ([evPm (pErr "BadBook") [.pl 2], evPm (pErr "BadText") [.pl 2], evPm (pErr "BadSide") [.pl 2], evPm (pBrs "BadRows") [.pl 3, .pl 4], evPm (pErr "BadNumber") [.pl 2], evPm (pErr "BadName") [.pl 2], evPm (pErr "BadForm") [.pl 2]].map .ex))) (sSeq (sAsg 5 (evPm (pm2 fAdd) [.pl 5, .ex (evPm pLst ([evPm (pErr "BadWord") [.pl 2], evPm (pErr "BadReading") [.pl 2], evPm (pErr "BadPaper") [.pl 2], evPm (pErr "BadCount") [.pl 2], evPm (pErr "BadLinks") [.pl 2], evPm (pErr "NoPair") [.pl 2], evPm (pErr "BadPlace") [.pl 2]].map .ex))])) (sSeq (sAsg 5 (evPm (pm2 fAdd) [.pl 5, .ex (evPm pLst ([evPm (pErr "BadOrder") [.pl 2], evPm (pErr "BadWorld") [.pl 2], evPm (pErr "BadTerm") [.pl 2], evPm (pErr "BadKind") [.pl 2], evPm (pErr "BadNumbers") [.pl 2], evPm (pErr "BadExamples") [.pl 2]].map .ex))])) (sSeq (sAsg 5 (evPm (pm2 fAdd) [.pl 5, .ex (evPm pLst ([evPm (pErr "BadRule") [.pl 2], evPm (pErr "Needed") [.pl 2], evPm (pErr "NothingToUndo") [.pl 2], evPm (pErr "Full") [.pl 2], evPm (pErr "BadCommand") [.pl 2], evPm (pErr "TooMany") [.pl 2]].map .ex))])) (sSeq (evFor [.pl 5] kEnumS (.tup [.nm 6, .nm 7]) (b_law_1)) (sSeq (sPar [.nm 9, .nm 10] [evPm (pErr "TongueError") [.pl 2], evPm (pBrsK "BadRows") [.pl 4, .pl 3]]) (sSeq (sIf (tvOr (tvOf (evPm (pm2 (fInX false)) [.ex (evC (.bool true)), .ex (evCall F__law_flags [.pl 9])])) (tvNot (tvOf (evPm (pIsG tbl "ValueError") [.pl 9])))) (sRet (evC (.bool false))) (sNil)) (sSeq (sIf (tvOf (evPm (pm2 fNeX) [.ex (evPm pLst ([evPm (pXfd "BadRows" "row") [.ex (evPm (pm2 fIx) [.pl 5, .ex (evC (.int 3))])], evPm (pXfd "BadRows" "word") [.ex (evPm (pm2 fIx) [.pl 5, .ex (evC (.int 3))])], evPm (pXfd "BadRows" "row") [.pl 10], evPm (pXfd "BadRows" "word") [.pl 10]].map .ex)), .ex (evPm pLst ([evVar 3, evVar 4, evVar 3, evVar 4].map .ex))])) (sRet (evC (.bool false))) (sNil)) (sSeq (sIf (tvOf (evPm (pm2 (fInX false)) [.ex (evC (.bool false)), .ex (evLc [.ex (evPm pLst ([evC (.int 0), evC (.int 1), evC (.int 2), evC (.int 4), evC (.int 5), evC (.int 25)].map .ex))] kSeq (.nm 6) [6] (tvYes) (evCall F__law_is_caught [.pl 6, .pl 2]))])) (sRet (evC (.bool false))) (sNil)) (sRet (evCall F__law_is_base_caught [.pl 3, .pl 4]))))))))))))
def F_law : FnV := mkF 10 ev_law
end
end L00
set_option Elab.async false
set_option linter.all false
set_option autoImplicit false
set_option maxRecDepth 100000
set_option maxHeartbeats 0
namespace L00
open PySem PySem.Spec L2 Ev
open PyProof.Rows hiding St
def top (i : Nat) : Stmt := PySem.Challenge.pw_pairedtongues_k00_error_classes.main.body.getD i (.Pass ⟨0, 0, 0, 0⟩)
def d0 : He.DefD := ⟨("_law_flags", none), "_law_flags", "_law_flags", defArgs (top 29), defBody (top 29), defScope (top 29), [], []⟩
def d1 : He.DefD := ⟨("_law_is_caught", none), "_law_is_caught", "_law_is_caught", defArgs (top 30), defBody (top 30), defScope (top 30), [], []⟩
def d2 : He.DefD := ⟨("_law_is_base_caught", none), "_law_is_base_caught", "_law_is_base_caught", defArgs (top 31), defBody (top 31), defScope (top 31), [], []⟩
def d3 : He.DefD := ⟨("law", none), "law", "law", defArgs (top 32), defBody (top 32), defScope (top 32), [], []⟩
def fn : List He.DefD := [d0, d1, d2, d3]
def mthL : List (Str × Str) := []
def mkL : List Str := []
def exB (K : PySem.W.Frag) : Bool := (tblNB tblL K && consB conL K) && ((ftB FTl K && (mthB mthL K && mkB mkL K)) && true)
def Bt (_ : PySem.W.Frag) (_ : Str → Option Value) (_ : Heap) : Prop := True
def fa : List He.Fa := [.free "ValueError", .free "enumerate", .free "int", .free "isinstance", .free "len", .free "range", .free "str", .free "sum", .glo "_law_flags", .glo "_law_is_caught", .glo "_law_is_base_caught", .glo "law", .glo "BadBook", .glo "BadCommand", .glo "BadCount", .glo "BadExamples", .glo "BadForm", .glo "BadKind", .glo "BadLinks", .glo "BadName", .glo "BadNumber", .glo "BadNumbers", .glo "BadOrder", .glo "BadPaper", .glo "BadPlace", .glo "BadReading", .glo "BadRows", .glo "BadRule", .glo "BadSide", .glo "BadTerm", .glo "BadText", .glo "BadWord", .glo "BadWorld", .glo "Full", .glo "Needed", .glo "NoPair", .glo "NothingToUndo", .glo "TongueError", .glo "TooMany", .exc "BadBook", .exc "BadCommand", .exc "BadCount", .exc "BadExamples", .exc "BadForm", .exc "BadKind", .exc "BadLinks", .exc "BadName", .exc "BadNumber", .exc "BadNumbers", .exc "BadOrder", .exc "BadPaper", .exc "BadPlace", .exc "BadReading", .exc "BadRule", .exc "BadSide", .exc "BadTerm", .exc "BadText", .exc "BadWord", .exc "BadWorld", .exc "Full", .exc "Needed", .exc "NoPair", .exc "NothingToUndo", .exc "TongueError", .exc "TooMany"]
end L00
set_option Elab.async false
set_option linter.all false
set_option autoImplicit false
set_option maxRecDepth 100000
set_option maxHeartbeats 0
namespace L00
open PySem PySem.Spec L2 Ev
open PyProof.Rows hiding St
def loose0 : List PySem.Str := ["__name__", "TongueError", "BadRows", "BadBook", "BadText", "BadSide", "BadNumber", "BadName", "BadForm", "BadWord", "BadReading", "BadPaper", "BadCount", "BadLinks", "NoPair", "BadPlace", "BadOrder", "BadWorld", "BadTerm", "BadKind", "BadNumbers", "BadExamples", "BadRule", "Needed", "NothingToUndo", "Full", "BadCommand", "TooMany", "_law_flags", "_law_is_caught"]
def loose1 : List PySem.Str := ["_law_is_base_caught"]
def loose : List PySem.Str := loose0 ++ loose1
abbrev R : PySem.W.OpenRow := PySem.W.OpenLaw.row PySem.Challenge.rw_pairedtongues_k00_error_classes
/-- where the parts of BadRows.__init__ stand -/
def brP : BrP := ⟨⟨6, 17, 6, 21⟩, ⟨6, 23, 6, 26⟩, ⟨6, 28, 6, 32⟩, 0, ⟨7, 8, 7, 13⟩, ⟨7, 8, 7, 15⟩, ⟨7, 8, 7, 24⟩, ⟨7, 25, 7, 51⟩, ⟨7, 8, 7, 52⟩, ⟨7, 8, 7, 52⟩, ⟨8, 8, 8, 12⟩, ⟨8, 8, 8, 16⟩, ⟨8, 19, 8, 22⟩, ⟨8, 8, 8, 22⟩, ⟨9, 8, 9, 12⟩, ⟨9, 8, 9, 17⟩, ⟨9, 20, 9, 24⟩, ⟨9, 8, 9, 24⟩⟩
def pf : PySem.Str := "/claim/cut.py"
noncomputable def ex2 (K : PySem.W.Frag) : Bool := exB K && (brB pf K && (theT K).isNone)
noncomputable abbrev hk : PySem.W.Hook := hookB 4 fa fn ex2 brP.w
noncomputable def ob (s : PySem.W.SharedT) : He.AlD × Bool × BrW := obsB 4 fa fn ex2 (HandSHeadRun.getT s)
theorem ob_eq (s : PySem.W.SharedT) : ob s = hk.obs s.abs := obsB_eq (HandSHeadRun.getT_eq s)
theorem run (w : World) : HandSHeadRun.RunEq R (PySem.W.view R.prog [32]) hk ob 9000 loose w := by
  intro os
  kernel_rfl
end L00
set_option Elab.async false
set_option linter.all false
set_option autoImplicit false
set_option maxRecDepth 100000
set_option maxHeartbeats 0
namespace L00
open PySem PySem.Spec L2 Ev
open PyProof.Rows hiding St
structure Gk (P : Program) (K : PySem.W.Frag) (mg : Str → Option Value) (w : World) : Prop where
  b_ValueError : mg ("ValueError" : Str) = none
  b_enumerate : mg ("enumerate" : Str) = none
  b_int : mg ("int" : Str) = none
  b_isinstance : mg ("isinstance" : Str) = none
  b_len : mg ("len" : Str) = none
  b_range : mg ("range" : Str) = none
  b_str : mg ("str" : Str) = none
  b_sum : mg ("sum" : Str) = none
  g__law_flags : mg ("_law_flags" : Str) = some (.ref (He.ga K "_law_flags"))
  g__law_is_caught : mg ("_law_is_caught" : Str) = some (.ref (He.ga K "_law_is_caught"))
  g__law_is_base_caught : mg ("_law_is_base_caught" : Str) = some (.ref (He.ga K "_law_is_base_caught"))
  g_law : mg ("law" : Str) = some (.ref (He.ga K "law"))
  c_BadBook : mg ("BadBook" : Str) = some (.ref (He.ga K "BadBook"))
  c_BadCommand : mg ("BadCommand" : Str) = some (.ref (He.ga K "BadCommand"))
  c_BadCount : mg ("BadCount" : Str) = some (.ref (He.ga K "BadCount"))
  c_BadExamples : mg ("BadExamples" : Str) = some (.ref (He.ga K "BadExamples"))
  c_BadForm : mg ("BadForm" : Str) = some (.ref (He.ga K "BadForm"))
  c_BadKind : mg ("BadKind" : Str) = some (.ref (He.ga K "BadKind"))
  c_BadLinks : mg ("BadLinks" : Str) = some (.ref (He.ga K "BadLinks"))
  c_BadName : mg ("BadName" : Str) = some (.ref (He.ga K "BadName"))
  c_BadNumber : mg ("BadNumber" : Str) = some (.ref (He.ga K "BadNumber"))
  c_BadNumbers : mg ("BadNumbers" : Str) = some (.ref (He.ga K "BadNumbers"))
  c_BadOrder : mg ("BadOrder" : Str) = some (.ref (He.ga K "BadOrder"))
  c_BadPaper : mg ("BadPaper" : Str) = some (.ref (He.ga K "BadPaper"))
  c_BadPlace : mg ("BadPlace" : Str) = some (.ref (He.ga K "BadPlace"))
  c_BadReading : mg ("BadReading" : Str) = some (.ref (He.ga K "BadReading"))
  c_BadRows : mg ("BadRows" : Str) = some (.ref (He.ga K "BadRows"))
  c_BadRule : mg ("BadRule" : Str) = some (.ref (He.ga K "BadRule"))
  c_BadSide : mg ("BadSide" : Str) = some (.ref (He.ga K "BadSide"))
  c_BadTerm : mg ("BadTerm" : Str) = some (.ref (He.ga K "BadTerm"))
  c_BadText : mg ("BadText" : Str) = some (.ref (He.ga K "BadText"))
  c_BadWord : mg ("BadWord" : Str) = some (.ref (He.ga K "BadWord"))
  c_BadWorld : mg ("BadWorld" : Str) = some (.ref (He.ga K "BadWorld"))
  c_Full : mg ("Full" : Str) = some (.ref (He.ga K "Full"))
  c_Needed : mg ("Needed" : Str) = some (.ref (He.ga K "Needed"))
  c_NoPair : mg ("NoPair" : Str) = some (.ref (He.ga K "NoPair"))
  c_NothingToUndo : mg ("NothingToUndo" : Str) = some (.ref (He.ga K "NothingToUndo"))
  c_TongueError : mg ("TongueError" : Str) = some (.ref (He.ga K "TongueError"))
  c_TooMany : mg ("TooMany" : Str) = some (.ref (He.ga K "TooMany"))
  x_BadBook : (He.Fa.exc "BadBook").ok K = true
  x_BadCommand : (He.Fa.exc "BadCommand").ok K = true
  x_BadCount : (He.Fa.exc "BadCount").ok K = true
  x_BadExamples : (He.Fa.exc "BadExamples").ok K = true
  x_BadForm : (He.Fa.exc "BadForm").ok K = true
  x_BadKind : (He.Fa.exc "BadKind").ok K = true
  x_BadLinks : (He.Fa.exc "BadLinks").ok K = true
  x_BadName : (He.Fa.exc "BadName").ok K = true
  x_BadNumber : (He.Fa.exc "BadNumber").ok K = true
  x_BadNumbers : (He.Fa.exc "BadNumbers").ok K = true
  x_BadOrder : (He.Fa.exc "BadOrder").ok K = true
  x_BadPaper : (He.Fa.exc "BadPaper").ok K = true
  x_BadPlace : (He.Fa.exc "BadPlace").ok K = true
  x_BadReading : (He.Fa.exc "BadReading").ok K = true
  x_BadRule : (He.Fa.exc "BadRule").ok K = true
  x_BadSide : (He.Fa.exc "BadSide").ok K = true
  x_BadTerm : (He.Fa.exc "BadTerm").ok K = true
  x_BadText : (He.Fa.exc "BadText").ok K = true
  x_BadWord : (He.Fa.exc "BadWord").ok K = true
  x_BadWorld : (He.Fa.exc "BadWorld").ok K = true
  x_Full : (He.Fa.exc "Full").ok K = true
  x_Needed : (He.Fa.exc "Needed").ok K = true
  x_NoPair : (He.Fa.exc "NoPair").ok K = true
  x_NothingToUndo : (He.Fa.exc "NothingToUndo").ok K = true
  x_TongueError : (He.Fa.exc "TongueError").ok K = true
  x_TooMany : (He.Fa.exc "TooMany").ok K = true
  br : PySem.BR.Txt P K (brC K) (brI K)
  xf : XF K tbl
  of : OF K FT
  kf : True
theorem gk {K : PySem.W.Frag} {h : Heap} {mg : Str → Option Value} (X : K.In h) (Gm : h.Ns mainGlobals mg) (c : He.SaysD fa fn K) (x : exB K = true) {w : World} {P : Program} (br : PySem.BR.Txt P K (brC K) (brI K)) : Gk P K mg w := ⟨He.free_ok X Gm (c.fact 0 (f := .free "ValueError") rfl), He.free_ok X Gm (c.fact 1 (f := .free "enumerate") rfl), He.free_ok X Gm (c.fact 2 (f := .free "int") rfl), He.free_ok X Gm (c.fact 3 (f := .free "isinstance") rfl), He.free_ok X Gm (c.fact 4 (f := .free "len") rfl), He.free_ok X Gm (c.fact 5 (f := .free "range") rfl), He.free_ok X Gm (c.fact 6 (f := .free "str") rfl), He.free_ok X Gm (c.fact 7 (f := .free "sum") rfl), He.glo_ok X Gm (c.fact 8 (f := .glo "_law_flags") rfl), He.glo_ok X Gm (c.fact 9 (f := .glo "_law_is_caught") rfl), He.glo_ok X Gm (c.fact 10 (f := .glo "_law_is_base_caught") rfl), He.glo_ok X Gm (c.fact 11 (f := .glo "law") rfl), He.glo_ok X Gm (c.fact 12 (f := .glo "BadBook") rfl), He.glo_ok X Gm (c.fact 13 (f := .glo "BadCommand") rfl), He.glo_ok X Gm (c.fact 14 (f := .glo "BadCount") rfl), He.glo_ok X Gm (c.fact 15 (f := .glo "BadExamples") rfl), He.glo_ok X Gm (c.fact 16 (f := .glo "BadForm") rfl), He.glo_ok X Gm (c.fact 17 (f := .glo "BadKind") rfl), He.glo_ok X Gm (c.fact 18 (f := .glo "BadLinks") rfl), He.glo_ok X Gm (c.fact 19 (f := .glo "BadName") rfl), He.glo_ok X Gm (c.fact 20 (f := .glo "BadNumber") rfl), He.glo_ok X Gm (c.fact 21 (f := .glo "BadNumbers") rfl), He.glo_ok X Gm (c.fact 22 (f := .glo "BadOrder") rfl), He.glo_ok X Gm (c.fact 23 (f := .glo "BadPaper") rfl), He.glo_ok X Gm (c.fact 24 (f := .glo "BadPlace") rfl), He.glo_ok X Gm (c.fact 25 (f := .glo "BadReading") rfl), He.glo_ok X Gm (c.fact 26 (f := .glo "BadRows") rfl), He.glo_ok X Gm (c.fact 27 (f := .glo "BadRule") rfl), He.glo_ok X Gm (c.fact 28 (f := .glo "BadSide") rfl), He.glo_ok X Gm (c.fact 29 (f := .glo "BadTerm") rfl), He.glo_ok X Gm (c.fact 30 (f := .glo "BadText") rfl), He.glo_ok X Gm (c.fact 31 (f := .glo "BadWord") rfl), He.glo_ok X Gm (c.fact 32 (f := .glo "BadWorld") rfl), He.glo_ok X Gm (c.fact 33 (f := .glo "Full") rfl), He.glo_ok X Gm (c.fact 34 (f := .glo "Needed") rfl), He.glo_ok X Gm (c.fact 35 (f := .glo "NoPair") rfl), He.glo_ok X Gm (c.fact 36 (f := .glo "NothingToUndo") rfl), He.glo_ok X Gm (c.fact 37 (f := .glo "TongueError") rfl), He.glo_ok X Gm (c.fact 38 (f := .glo "TooMany") rfl), c.fact 39 (f := .exc "BadBook") rfl, c.fact 40 (f := .exc "BadCommand") rfl, c.fact 41 (f := .exc "BadCount") rfl, c.fact 42 (f := .exc "BadExamples") rfl, c.fact 43 (f := .exc "BadForm") rfl, c.fact 44 (f := .exc "BadKind") rfl, c.fact 45 (f := .exc "BadLinks") rfl, c.fact 46 (f := .exc "BadName") rfl, c.fact 47 (f := .exc "BadNumber") rfl, c.fact 48 (f := .exc "BadNumbers") rfl, c.fact 49 (f := .exc "BadOrder") rfl, c.fact 50 (f := .exc "BadPaper") rfl, c.fact 51 (f := .exc "BadPlace") rfl, c.fact 52 (f := .exc "BadReading") rfl, c.fact 53 (f := .exc "BadRule") rfl, c.fact 54 (f := .exc "BadSide") rfl, c.fact 55 (f := .exc "BadTerm") rfl, c.fact 56 (f := .exc "BadText") rfl, c.fact 57 (f := .exc "BadWord") rfl, c.fact 58 (f := .exc "BadWorld") rfl, c.fact 59 (f := .exc "Full") rfl, c.fact 60 (f := .exc "Needed") rfl, c.fact 61 (f := .exc "NoPair") rfl, c.fact 62 (f := .exc "NothingToUndo") rfl, c.fact 63 (f := .exc "TongueError") rfl, c.fact 64 (f := .exc "TooMany") rfl, br, tblNB_ok (Bool.and_eq_true_iff.mp (Bool.and_eq_true_iff.mp x).1).1, ftB_ok (Bool.and_eq_true_iff.mp (Bool.and_eq_true_iff.mp (Bool.and_eq_true_iff.mp x).2).1).1, True.intro⟩
theorem HU {k : Nat} {A : Around} (r : RoomG k A) : A.units + 64 < cLine := r.units
theorem HV {k : Nat} {A : Around} (r : RoomG k A) : A.units + 65 < cLine := Nat.lt_of_le_of_lt (by omega) r.units2
section
variable {P : Program} {w : World} {K : PySem.W.Frag} {mg : Str → Option Value} {base : Heap}
def N__law_flags : List Str := ["_law_e", "_law_first"]
theorem sc__law_flags : FnScope N__law_flags ["_law_e"] (defScope (top 29)) := ⟨rfl, rfl, rfl, by decide +kernel, rfl, by decide +kernel, by decide +kernel⟩
theorem kn__law_flags (G : Gk P K mg w) (c : He.SaysD fa fn K) (B : Bt K mg base) : Kn P w K mg base 1 "_law_flags" ["_law_e"] 1 F__law_flags := by
  obtain ⟨fd, Fd⟩ := c.def_ 0 (d := d0) rfl
  exact kn_of (lv := 0) (N := N__law_flags) (fb := ev__law_flags) Fd G.g__law_flags sc__law_flags (fun _ _ _ _ _ _ us hl => match us, hl with | [_], _ => rfl) (fun _ _ _ _ _ _ us ws hl => match us, ws, hl with | [], [_], _ => rfl | [_], [], _ => rfl)
    fun cdv A outer s H E hr => (s_cons (s_asg (i := 1) sc__law_flags.nd rfl (by first | exact Or.inl rfl | exact Or.inr rfl) (pe_lstD (fs := [evPm (pIsG tbl "BadBook") [.pl 0], evPm (pIsG tbl "BadText") [.pl 0], evPm (pIsG tbl "BadSide") [.pl 0], evPm (pIsG tbl "BadRows") [.pl 0], evPm (pIsG tbl "BadNumber") [.pl 0]]) (pa_s (pe_ex (pe_isG (T := "BadBook") G.xf (pe_at (pv 0)) rfl G.b_isinstance (names_own rfl G.c_BadBook (by decide)))) (pa_s (pe_ex (pe_isG (T := "BadText") G.xf (pe_at (pv 0)) rfl G.b_isinstance (names_own rfl G.c_BadText (by decide)))) (pa_s (pe_ex (pe_isG (T := "BadSide") G.xf (pe_at (pv 0)) rfl G.b_isinstance (names_own rfl G.c_BadSide (by decide)))) (pa_s (pe_ex (pe_isG (T := "BadRows") G.xf (pe_at (pv 0)) rfl G.b_isinstance (names_own rfl G.c_BadRows (by decide)))) (pa_s (pe_ex (pe_isG (T := "BadNumber") G.xf (pe_at (pv 0)) rfl G.b_isinstance (names_own rfl G.c_BadNumber (by decide)))) pa_s0)))))))
 (s_cons (s_asg (i := 1) sc__law_flags.nd rfl (by first | exact Or.inl rfl | exact Or.inr rfl) (pe_add' (pe_at (pv 1)) (pe_ex (pe_lstD (fs := [evPm (pIsG tbl "BadName") [.pl 0], evPm (pIsG tbl "BadForm") [.pl 0], evPm (pIsG tbl "BadWord") [.pl 0], evPm (pIsG tbl "BadReading") [.pl 0]]) (pa_s (pe_ex (pe_isG (T := "BadName") G.xf (pe_at (pv 0)) rfl G.b_isinstance (names_own rfl G.c_BadName (by decide)))) (pa_s (pe_ex (pe_isG (T := "BadForm") G.xf (pe_at (pv 0)) rfl G.b_isinstance (names_own rfl G.c_BadForm (by decide)))) (pa_s (pe_ex (pe_isG (T := "BadWord") G.xf (pe_at (pv 0)) rfl G.b_isinstance (names_own rfl G.c_BadWord (by decide)))) (pa_s (pe_ex (pe_isG (T := "BadReading") G.xf (pe_at (pv 0)) rfl G.b_isinstance (names_own rfl G.c_BadReading (by decide)))) pa_s0))))))))
 (s_cons (s_asg (i := 1) sc__law_flags.nd rfl (by first | exact Or.inl rfl | exact Or.inr rfl) (pe_add' (pe_at (pv 1)) (pe_ex (pe_lstD (fs := [evPm (pIsG tbl "BadPaper") [.pl 0], evPm (pIsG tbl "BadCount") [.pl 0], evPm (pIsG tbl "BadLinks") [.pl 0], evPm (pIsG tbl "NoPair") [.pl 0]]) (pa_s (pe_ex (pe_isG (T := "BadPaper") G.xf (pe_at (pv 0)) rfl G.b_isinstance (names_own rfl G.c_BadPaper (by decide)))) (pa_s (pe_ex (pe_isG (T := "BadCount") G.xf (pe_at (pv 0)) rfl G.b_isinstance (names_own rfl G.c_BadCount (by decide)))) (pa_s (pe_ex (pe_isG (T := "BadLinks") G.xf (pe_at (pv 0)) rfl G.b_isinstance (names_own rfl G.c_BadLinks (by decide)))) (pa_s (pe_ex (pe_isG (T := "NoPair") G.xf (pe_at (pv 0)) rfl G.b_isinstance (names_own rfl G.c_NoPair (by decide)))) pa_s0))))))))
 (s_cons (s_asg (i := 1) sc__law_flags.nd rfl (by first | exact Or.inl rfl | exact Or.inr rfl) (pe_add' (pe_at (pv 1)) (pe_ex (pe_lstD (fs := [evPm (pIsG tbl "BadPlace") [.pl 0], evPm (pIsG tbl "BadOrder") [.pl 0], evPm (pIsG tbl "BadWorld") [.pl 0], evPm (pIsG tbl "BadTerm") [.pl 0]]) (pa_s (pe_ex (pe_isG (T := "BadPlace") G.xf (pe_at (pv 0)) rfl G.b_isinstance (names_own rfl G.c_BadPlace (by decide)))) (pa_s (pe_ex (pe_isG (T := "BadOrder") G.xf (pe_at (pv 0)) rfl G.b_isinstance (names_own rfl G.c_BadOrder (by decide)))) (pa_s (pe_ex (pe_isG (T := "BadWorld") G.xf (pe_at (pv 0)) rfl G.b_isinstance (names_own rfl G.c_BadWorld (by decide)))) (pa_s (pe_ex (pe_isG (T := "BadTerm") G.xf (pe_at (pv 0)) rfl G.b_isinstance (names_own rfl G.c_BadTerm (by decide)))) pa_s0))))))))
 (s_cons (s_asg (i := 1) sc__law_flags.nd rfl (by first | exact Or.inl rfl | exact Or.inr rfl) (pe_add' (pe_at (pv 1)) (pe_ex (pe_lstD (fs := [evPm (pIsG tbl "BadKind") [.pl 0], evPm (pIsG tbl "BadNumbers") [.pl 0], evPm (pIsG tbl "BadExamples") [.pl 0], evPm (pIsG tbl "BadRule") [.pl 0]]) (pa_s (pe_ex (pe_isG (T := "BadKind") G.xf (pe_at (pv 0)) rfl G.b_isinstance (names_own rfl G.c_BadKind (by decide)))) (pa_s (pe_ex (pe_isG (T := "BadNumbers") G.xf (pe_at (pv 0)) rfl G.b_isinstance (names_own rfl G.c_BadNumbers (by decide)))) (pa_s (pe_ex (pe_isG (T := "BadExamples") G.xf (pe_at (pv 0)) rfl G.b_isinstance (names_own rfl G.c_BadExamples (by decide)))) (pa_s (pe_ex (pe_isG (T := "BadRule") G.xf (pe_at (pv 0)) rfl G.b_isinstance (names_own rfl G.c_BadRule (by decide)))) pa_s0))))))))
 (s_cons (s_asg (i := 1) sc__law_flags.nd rfl (by first | exact Or.inl rfl | exact Or.inr rfl) (pe_add' (pe_at (pv 1)) (pe_ex (pe_lstD (fs := [evPm (pIsG tbl "Needed") [.pl 0], evPm (pIsG tbl "NothingToUndo") [.pl 0], evPm (pIsG tbl "Full") [.pl 0], evPm (pIsG tbl "BadCommand") [.pl 0]]) (pa_s (pe_ex (pe_isG (T := "Needed") G.xf (pe_at (pv 0)) rfl G.b_isinstance (names_own rfl G.c_Needed (by decide)))) (pa_s (pe_ex (pe_isG (T := "NothingToUndo") G.xf (pe_at (pv 0)) rfl G.b_isinstance (names_own rfl G.c_NothingToUndo (by decide)))) (pa_s (pe_ex (pe_isG (T := "Full") G.xf (pe_at (pv 0)) rfl G.b_isinstance (names_own rfl G.c_Full (by decide)))) (pa_s (pe_ex (pe_isG (T := "BadCommand") G.xf (pe_at (pv 0)) rfl G.b_isinstance (names_own rfl G.c_BadCommand (by decide)))) pa_s0))))))))
 (s_one (s_ret (pe_add' (pe_at (pv 1)) (pe_ex (pe_lstD (fs := [evPm (pIsG tbl "TooMany") [.pl 0]]) (pa_s (pe_ex (pe_isG (T := "TooMany") G.xf (pe_at (pv 0)) rfl G.b_isinstance (names_own rfl G.c_TooMany (by decide)))) pa_s0))))))))))))
def N__law_is_caught : List Str := ["_law_number", "_law_text"]
theorem sc__law_is_caught : FnScope N__law_is_caught ["_law_number", "_law_text"] (defScope (top 30)) := ⟨rfl, rfl, rfl, by decide +kernel, rfl, by decide +kernel, by decide +kernel⟩
theorem kn__law_is_caught (G : Gk P K mg w) (c : He.SaysD fa fn K) (B : Bt K mg base) : Kn P w K mg base 1 "_law_is_caught" ["_law_number", "_law_text"] 0 F__law_is_caught := by
  obtain ⟨fd, Fd⟩ := c.def_ 1 (d := d1) rfl
  exact kn_of (lv := 0) (N := N__law_is_caught) (fb := ev__law_is_caught) Fd G.g__law_is_caught sc__law_is_caught (fun _ _ _ _ _ _ us hl => match us, hl with | [_, _], _ => rfl) (fun _ _ _ _ _ _ us ws hl => match us, ws, hl with | [], [_, _], _ => rfl | [_], [_], _ => rfl | [_, _], [], _ => rfl)
    fun cdv A outer s H E hr => (s_one (s_tryM G.xf rfl rfl takes_fn (fun _ _ _ htk hpo => (s_cons (s_if (pt_cm (op_eqX (HU hr)) ok_eqX (pe_at (pv 0)) (pe_ex pe_cInt) (nomark _) fEqX_bool) (s_one (s_raiseV rfl htk G.x_BadBook G.c_BadBook rfl (pe_at (pv 1)))) s_nil)
 (s_cons (s_if (pt_cm (op_eqX (HU hr)) ok_eqX (pe_at (pv 0)) (pe_ex pe_cInt) (nomark _) fEqX_bool) (s_one (s_raiseV rfl htk G.x_BadText G.c_BadText rfl (pe_at (pv 1)))) s_nil)
 (s_cons (s_if (pt_cm (op_eqX (HU hr)) ok_eqX (pe_at (pv 0)) (pe_ex pe_cInt) (nomark _) fEqX_bool) (s_one (s_raiseV rfl htk G.x_BadSide G.c_BadSide rfl (pe_at (pv 1)))) s_nil)
 (s_cons (s_if (pt_cm (op_eqX (HU hr)) ok_eqX (pe_at (pv 0)) (pe_ex pe_cInt) (nomark _) fEqX_bool) (s_one (s_raiseV rfl htk G.x_BadNumber G.c_BadNumber rfl (pe_at (pv 1)))) s_nil)
 (s_cons (s_if (pt_cm (op_eqX (HU hr)) ok_eqX (pe_at (pv 0)) (pe_ex pe_cInt) (nomark _) fEqX_bool) (s_one (s_raiseV rfl htk G.x_BadName G.c_BadName rfl (pe_at (pv 1)))) s_nil)
 (s_one (s_raiseV rfl htk G.x_TooMany G.c_TooMany rfl (pe_at (pv 1)))))))))) (hd_cons (names_own rfl G.c_BadBook (by decide)) (fun a oe pn => (s_one (s_ret (pe_cm (op_eqX (by have z := HU hr; exact z)) ok_eqX (pe_at (pv 0)) (pe_ex pe_cInt) (nomark _))))) (hd_cons (names_own rfl G.c_BadText (by decide)) (fun a oe pn => (s_one (s_ret (pe_cm (op_eqX (by have z := HU hr; exact z)) ok_eqX (pe_at (pv 0)) (pe_ex pe_cInt) (nomark _))))) (hd_cons (names_own rfl G.c_BadSide (by decide)) (fun a oe pn => (s_one (s_ret (pe_cm (op_eqX (by have z := HU hr; exact z)) ok_eqX (pe_at (pv 0)) (pe_ex pe_cInt) (nomark _))))) (hd_cons (names_own rfl G.c_BadNumber (by decide)) (fun a oe pn => (s_one (s_ret (pe_cm (op_eqX (by have z := HU hr; exact z)) ok_eqX (pe_at (pv 0)) (pe_ex pe_cInt) (nomark _))))) (hd_cons (names_own rfl G.c_BadName (by decide)) (fun a oe pn => (s_one (s_ret (pe_cm (op_eqX (by have z := HU hr; exact z)) ok_eqX (pe_at (pv 0)) (pe_ex pe_cInt) (nomark _))))) (hd_cons (names_own rfl G.c_TooMany (by decide)) (fun a oe pn => (s_one (s_ret (pe_cm (op_notInA (by have z := HV hr; exact z)) ok_in (pe_at (pv 0)) (pe_ex (pe_lstD (fs := [evC (.int 0), evC (.int 1), evC (.int 2), evC (.int 4), evC (.int 5)]) (pa_s (pe_ex pe_cInt) (pa_s (pe_ex pe_cInt) (pa_s (pe_ex pe_cInt) (pa_s (pe_ex pe_cInt) (pa_s (pe_ex pe_cInt) pa_s0))))))) (by rfl))))) hd_nil))))))))
def N__law_is_base_caught : List Str := ["_law_row", "_law_word", "_law_e"]
theorem sc__law_is_base_caught : FnScope N__law_is_base_caught ["_law_row", "_law_word"] (defScope (top 31)) := ⟨rfl, rfl, rfl, by decide +kernel, rfl, by decide +kernel, by decide +kernel⟩
theorem kn__law_is_base_caught (G : Gk P K mg w) (c : He.SaysD fa fn K) (B : Bt K mg base) : Kn P w K mg base 1 "_law_is_base_caught" ["_law_row", "_law_word"] 1 F__law_is_base_caught := by
  obtain ⟨fd, Fd⟩ := c.def_ 2 (d := d2) rfl
  exact kn_of (lv := 0) (N := N__law_is_base_caught) (fb := ev__law_is_base_caught) Fd G.g__law_is_base_caught sc__law_is_base_caught (fun _ _ _ _ _ _ us hl => match us, hl with | [_, _], _ => rfl) (fun _ _ _ _ _ _ us ws hl => match us, ws, hl with | [], [_, _], _ => rfl | [_], [_], _ => rfl | [_, _], [], _ => rfl)
    fun cdv A outer s H E hr => (s_one (s_baseC (i := 2) (ir := 0) (iw := 1) (k := 0) G.br G.xf (by rfl) (by rfl) (by decide) (xf_ok G.br) (hr.mono (by decide)) rfl rfl rfl sc__law_is_base_caught.nd rfl rfl (names_own rfl G.c_TongueError (by decide)) takes_fn G.c_BadRows rfl rfl G.b_isinstance (fun _ _ => pa_cons (pv 0) (pa_cons (pv 1) pa_nil)) (fun _ _ _ => pv 2) (fun _ _ _ => pv 0) (fun _ _ _ => pv 1)))
def N_law : List Str := ["_law_script", "_law_number", "_law_text", "_law_row", "_law_word", "_law_made", "_law_at", "_law_e", "_law_k", "_law_base", "_law_other"]
theorem sc_law : FnScope N_law ["_law_script"] (defScope (top 32)) := ⟨rfl, rfl, rfl, by decide +kernel, rfl, by decide +kernel, by decide +kernel⟩
theorem fn_law (G : Gk P K mg w) (c : He.SaysD fa fn K) (B : Bt K mg base) {fd : FuncData} (Fd : FunD K d3.name d3.qual d3.params d3.body d3.scope (d3.dvs K) (d3.kws K) (He.fAd K d3.at_) fd) : FnG P w K mg base (L2.CX P w) 2 (He.fAd K d3.at_) fd ["_law_script"] (spV ⟨K, P, w⟩ 1 10 F_law) := by
  have KN__law_flags := kn__law_flags (P := P) (w := w) (base := base) G c B
  have KN__law_is_base_caught := kn__law_is_base_caught (P := P) (w := w) (base := base) G c B
  have KN__law_is_caught := kn__law_is_caught (P := P) (w := w) (base := base) G c B
  exact fnok_of (lv := 1) (N := N_law) (fb := ev_law) Fd sc_law fun cdv A outer s H E hr => (s_cons (s_asg (i := 1) sc_law.nd rfl (by first | exact Or.inl rfl | exact Or.inr rfl) (pe_cb (cr_sum rfl) ok_sum rfl G.b_sum boot_sum (pa_s (pe_ex (pe_sl01 (pe_at (pv 0)) (pe_ex pe_cInt))) pa_s0)))
 (s_cons (by first | exact s_par3 (i := 2) (j := 3) (l := 4) rfl sc_law.nd rfl rfl rfl (by decide) (by decide) (by decide) rfl rfl rfl (pa_r (pe_add' (pe_ex pe_cStr) (pe_ex (pe_ct call_str_int ok_strI rfl G.b_str boot_str (pa_s (pe_ex (pe_mod' (pe_ex (pe_ct call_int1 ok_int rfl G.b_int boot_int (pa_s (pe_at (pv 1)) pa_s0))) (pe_ex pe_cInt))) pa_s0)))) (pa_r (pe_mod' (pe_ex (pe_ct call_int1 ok_int rfl G.b_int boot_int (pa_s (pe_at (pv 1)) pa_s0))) (pe_ex pe_cInt)) (pa_r (pe_mod' (pe_ex (pe_ct call_int1 ok_int rfl G.b_int boot_int (pa_s (pe_ex (pe_div' (pe_at (pv 1)) (pe_ex pe_cInt))) pa_s0))) (pe_ex pe_cInt)) pa_r0))) rfl | exact s_parG rfl (pa_r (pe_add' (pe_ex pe_cStr) (pe_ex (pe_ct call_str_int ok_strI rfl G.b_str boot_str (pa_s (pe_ex (pe_mod' (pe_ex (pe_ct call_int1 ok_int rfl G.b_int boot_int (pa_s (pe_at (pv 1)) pa_s0))) (pe_ex pe_cInt))) pa_s0)))) (pa_r (pe_mod' (pe_ex (pe_ct call_int1 ok_int rfl G.b_int boot_int (pa_s (pe_at (pv 1)) pa_s0))) (pe_ex pe_cInt)) (pa_r (pe_mod' (pe_ex (pe_ct call_int1 ok_int rfl G.b_int boot_int (pa_s (pe_ex (pe_div' (pe_at (pv 1)) (pe_ex pe_cInt))) pa_s0))) (pe_ex pe_cInt)) pa_r0))) (r_cons (gr_nm (i := 2) sc_law.nd rfl (by first | exact Or.inl rfl | exact Or.inr rfl)) (r_cons (gr_nm (i := 3) sc_law.nd rfl (by first | exact Or.inl rfl | exact Or.inr rfl)) (r_cons (gr_nm (i := 4) sc_law.nd rfl (by first | exact Or.inl rfl | exact Or.inr rfl)) r_nil))))
 (s_cons (s_asg (i := 5) sc_law.nd rfl (by first | exact Or.inl rfl | exact Or.inr rfl) (pe_lstD (fs := [evPm (pErr "BadBook") [.pl 2], evPm (pErr "BadText") [.pl 2], evPm (pErr "BadSide") [.pl 2], evPm (pBrs "BadRows") [.pl 3, .pl 4], evPm (pErr "BadNumber") [.pl 2], evPm (pErr "BadName") [.pl 2], evPm (pErr "BadForm") [.pl 2]]) (pa_s (pe_ex (pe_err G.x_BadBook G.c_BadBook rfl (pe_at (pv 2)))) (pa_s (pe_ex (pe_err G.x_BadText G.c_BadText rfl (pe_at (pv 2)))) (pa_s (pe_ex (pe_err G.x_BadSide G.c_BadSide rfl (pe_at (pv 2)))) (pa_s (pe_ex (pe_brs G.br hr G.c_BadRows rfl (pa_s (pe_at (pv 3)) (pa_s (pe_at (pv 4)) pa_s0)))) (pa_s (pe_ex (pe_err G.x_BadNumber G.c_BadNumber rfl (pe_at (pv 2)))) (pa_s (pe_ex (pe_err G.x_BadName G.c_BadName rfl (pe_at (pv 2)))) (pa_s (pe_ex (pe_err G.x_BadForm G.c_BadForm rfl (pe_at (pv 2)))) pa_s0)))))))))
 (s_cons (s_asg (i := 5) sc_law.nd rfl (by first | exact Or.inl rfl | exact Or.inr rfl) (pe_add' (pe_at (pv 5)) (pe_ex (pe_lstD (fs := [evPm (pErr "BadWord") [.pl 2], evPm (pErr "BadReading") [.pl 2], evPm (pErr "BadPaper") [.pl 2], evPm (pErr "BadCount") [.pl 2], evPm (pErr "BadLinks") [.pl 2], evPm (pErr "NoPair") [.pl 2], evPm (pErr "BadPlace") [.pl 2]]) (pa_s (pe_ex (pe_err G.x_BadWord G.c_BadWord rfl (pe_at (pv 2)))) (pa_s (pe_ex (pe_err G.x_BadReading G.c_BadReading rfl (pe_at (pv 2)))) (pa_s (pe_ex (pe_err G.x_BadPaper G.c_BadPaper rfl (pe_at (pv 2)))) (pa_s (pe_ex (pe_err G.x_BadCount G.c_BadCount rfl (pe_at (pv 2)))) (pa_s (pe_ex (pe_err G.x_BadLinks G.c_BadLinks rfl (pe_at (pv 2)))) (pa_s (pe_ex (pe_err G.x_NoPair G.c_NoPair rfl (pe_at (pv 2)))) (pa_s (pe_ex (pe_err G.x_BadPlace G.c_BadPlace rfl (pe_at (pv 2)))) pa_s0)))))))))))
 (s_cons (s_asg (i := 5) sc_law.nd rfl (by first | exact Or.inl rfl | exact Or.inr rfl) (pe_add' (pe_at (pv 5)) (pe_ex (pe_lstD (fs := [evPm (pErr "BadOrder") [.pl 2], evPm (pErr "BadWorld") [.pl 2], evPm (pErr "BadTerm") [.pl 2], evPm (pErr "BadKind") [.pl 2], evPm (pErr "BadNumbers") [.pl 2], evPm (pErr "BadExamples") [.pl 2]]) (pa_s (pe_ex (pe_err G.x_BadOrder G.c_BadOrder rfl (pe_at (pv 2)))) (pa_s (pe_ex (pe_err G.x_BadWorld G.c_BadWorld rfl (pe_at (pv 2)))) (pa_s (pe_ex (pe_err G.x_BadTerm G.c_BadTerm rfl (pe_at (pv 2)))) (pa_s (pe_ex (pe_err G.x_BadKind G.c_BadKind rfl (pe_at (pv 2)))) (pa_s (pe_ex (pe_err G.x_BadNumbers G.c_BadNumbers rfl (pe_at (pv 2)))) (pa_s (pe_ex (pe_err G.x_BadExamples G.c_BadExamples rfl (pe_at (pv 2)))) pa_s0))))))))))
 (s_cons (s_asg (i := 5) sc_law.nd rfl (by first | exact Or.inl rfl | exact Or.inr rfl) (pe_add' (pe_at (pv 5)) (pe_ex (pe_lstD (fs := [evPm (pErr "BadRule") [.pl 2], evPm (pErr "Needed") [.pl 2], evPm (pErr "NothingToUndo") [.pl 2], evPm (pErr "Full") [.pl 2], evPm (pErr "BadCommand") [.pl 2], evPm (pErr "TooMany") [.pl 2]]) (pa_s (pe_ex (pe_err G.x_BadRule G.c_BadRule rfl (pe_at (pv 2)))) (pa_s (pe_ex (pe_err G.x_Needed G.c_Needed rfl (pe_at (pv 2)))) (pa_s (pe_ex (pe_err G.x_NothingToUndo G.c_NothingToUndo rfl (pe_at (pv 2)))) (pa_s (pe_ex (pe_err G.x_Full G.c_Full rfl (pe_at (pv 2)))) (pa_s (pe_ex (pe_err G.x_BadCommand G.c_BadCommand rfl (pe_at (pv 2)))) (pa_s (pe_ex (pe_err G.x_TooMany G.c_TooMany rfl (pe_at (pv 2)))) pa_s0))))))))))
 (s_cons (s_for passes_fn rfl (src_enum rfl G.b_enumerate (pa_s (pe_at (pv 5)) pa_s0)) (g_tup rfl (g_cons (g_nm (i := 6) sc_law.nd rfl (by first | exact Or.inl rfl | exact Or.inr rfl)) (g_cons (g_nm (i := 7) sc_law.nd rfl (by first | exact Or.inl rfl | exact Or.inr rfl)) g_nil))) (s_cons (s_if (PW.pt (pw_o (pt_n (pt_ev (pe_isG (T := "TongueError") G.xf (pe_at (pv 7)) rfl G.b_isinstance (names_own rfl G.c_TongueError (by decide))))) (pw_o1 (pt_n (pt_ev (pe_isG (T := "ValueError") G.xf (pe_at (pv 7)) rfl G.b_isinstance (names_VE rfl G.b_ValueError))))))) (s_one (s_ret pe_cBl)) s_nil)
 (s_one (s_if (pt_cm (op_neX (HU hr)) ok_neX (pe_ex (pe_fn (KN__law_flags.mono (by decide)) hr rfl takes_fn (pa_s (pe_at (pv 7)) pa_s0))) (pe_ex (pe_lcE (blk := [("_law_k", 8)]) rfl sc_law.nd (src_r1 rfl G.b_range (pa_s (pe_ex (pe_cb call_len ok_len rfl G.b_len boot_len (pa_s (pe_at (pv 5)) pa_s0))) pa_s0)) ⟨blkOk_by (by kernel_rfl), fun _ _ _ _ _ => (g_nm (i := 8) sc_law.nd rfl (by first | exact Or.inl rfl | exact Or.inr rfl)), fun _ _ _ _ _ => pts_0, fun _ _ _ _ _ => (pe_cm (op_eqX (HU hr)) ok_eqX (pe_at (pv 8)) (pe_at (pv 6)) (nomark _)), by decide⟩)) (nomark _) fNeX_bool) (s_one (s_ret pe_cBl)) s_nil))))
 (s_cons (by first | exact s_par2 (i := 9) (j := 10) rfl sc_law.nd rfl rfl (by decide) rfl rfl (pa_r (pe_err G.x_TongueError G.c_TongueError rfl (pe_at (pv 2))) (pa_r (pe_brsK G.br hr G.c_BadRows rfl (pk_1 (pe_at (pv 4)) (pk_1 (pe_at (pv 3)) pk_0))) pa_r0)) rfl | exact s_parG rfl (pa_r (pe_err G.x_TongueError G.c_TongueError rfl (pe_at (pv 2))) (pa_r (pe_brsK G.br hr G.c_BadRows rfl (pk_1 (pe_at (pv 4)) (pk_1 (pe_at (pv 3)) pk_0))) pa_r0)) (r_cons (gr_nm (i := 9) sc_law.nd rfl (by first | exact Or.inl rfl | exact Or.inr rfl)) (r_cons (gr_nm (i := 10) sc_law.nd rfl (by first | exact Or.inl rfl | exact Or.inr rfl)) r_nil)))
 (s_cons (s_if (PW.pt (pw_o (pt_cm (op_inA (HV hr)) ok_in (pe_ex pe_cBl) (pe_ex (pe_fn (KN__law_flags.mono (by decide)) hr rfl takes_fn (pa_s (pe_at (pv 9)) pa_s0))) (by rfl) fInX_bool) (pw_o1 (pt_n (pt_ev (pe_isG (T := "ValueError") G.xf (pe_at (pv 9)) rfl G.b_isinstance (names_VE rfl G.b_ValueError))))))) (s_one (s_ret pe_cBl)) s_nil)
 (s_cons (s_if (pt_cm (op_neX (HU hr)) ok_neX (pe_ex (pe_lstD (fs := [evPm (pXfd "BadRows" "row") [.ex (evPm (pm2 fIx) [.pl 5, .ex (evC (.int 3))])], evPm (pXfd "BadRows" "word") [.ex (evPm (pm2 fIx) [.pl 5, .ex (evC (.int 3))])], evPm (pXfd "BadRows" "row") [.pl 10], evPm (pXfd "BadRows" "word") [.pl 10]]) (pa_s (pe_ex (pe_xfd (xf_ok G.br) G.br.noR (pe_ex (pe_sub1 (pe_at (pv 5)) (pe_ex pe_cInt))))) (pa_s (pe_ex (pe_xfd (xf_ok G.br) G.br.noW (pe_ex (pe_sub1 (pe_at (pv 5)) (pe_ex pe_cInt))))) (pa_s (pe_ex (pe_xfd (xf_ok G.br) G.br.noR (pe_at (pv 10)))) (pa_s (pe_ex (pe_xfd (xf_ok G.br) G.br.noW (pe_at (pv 10)))) pa_s0)))))) (pe_ex (pe_lstD (fs := [evVar 3, evVar 4, evVar 3, evVar 4]) (pa_s (pe_ex (pe_nm (pv 3))) (pa_s (pe_ex (pe_nm (pv 4))) (pa_s (pe_ex (pe_nm (pv 3))) (pa_s (pe_ex (pe_nm (pv 4))) pa_s0)))))) (nomark _) fNeX_bool) (s_one (s_ret pe_cBl)) s_nil)
 (s_cons (s_if (pt_cm (op_inA (HV hr)) ok_in (pe_ex pe_cBl) (pe_ex (pe_lcE (blk := [("_law_at", 6)]) rfl sc_law.nd (src_seq (pe_ex (pe_lstD (fs := [evC (.int 0), evC (.int 1), evC (.int 2), evC (.int 4), evC (.int 5), evC (.int 25)]) (pa_s (pe_ex pe_cInt) (pa_s (pe_ex pe_cInt) (pa_s (pe_ex pe_cInt) (pa_s (pe_ex pe_cInt) (pa_s (pe_ex pe_cInt) (pa_s (pe_ex pe_cInt) pa_s0))))))))) ⟨blkOk_by (by kernel_rfl), fun _ _ _ _ _ => (g_nm (i := 6) sc_law.nd rfl (by first | exact Or.inl rfl | exact Or.inr rfl)), fun _ _ _ _ _ => pts_0, fun _ _ _ _ _ => (pe_fn (KN__law_is_caught.mono (by decide)) hr rfl takes0 (pa_s (pe_at (pv 6)) (pa_s (pe_at (pv 2)) pa_s0))), by decide⟩)) (by rfl) fInX_bool) (s_one (s_ret pe_cBl)) s_nil)
 (s_one (s_ret (pe_fn (KN__law_is_base_caught.mono (by decide)) hr rfl takes_fn (pa_s (pe_at (pv 3)) (pa_s (pe_at (pv 4)) pa_s0))))))))))))))))
end
end L00
set_option linter.all false
set_option autoImplicit false
set_option maxRecDepth 100000
set_option maxHeartbeats 4000000
namespace L00
open PySem PySem.Spec L2 Ev LawC
open PyProof.Rows hiding St
noncomputable section
def NM : List Str := ["BadBook", "BadText", "BadSide", "BadRows", "BadNumber", "BadName", "BadForm", "BadWord", "BadReading", "BadPaper", "BadCount", "BadLinks", "NoPair", "BadPlace", "BadOrder", "BadWorld", "BadTerm", "BadKind", "BadNumbers", "BadExamples", "BadRule", "Needed", "NothingToUndo", "Full", "BadCommand", "TooMany"]
def NB : List (Str × Bool) := [("BadBook", false), ("BadText", false), ("BadSide", false), ("BadRows", true), ("BadNumber", false), ("BadName", false), ("BadForm", false), ("BadWord", false), ("BadReading", false), ("BadPaper", false), ("BadCount", false), ("BadLinks", false), ("NoPair", false), ("BadPlace", false), ("BadOrder", false), ("BadWorld", false), ("BadTerm", false), ("BadKind", false), ("BadNumbers", false), ("BadExamples", false), ("BadRule", false), ("Needed", false), ("NothingToUndo", false), ("Full", false), ("BadCommand", false), ("TooMany", false)]
def NB0 : List (Str × Bool) := (("TongueError" : Str), false) :: NB
def NM2 : List Str := ("TongueError" : Str) :: ("ValueError" : Str) :: NM
def bb (c T : Str) : Bool := decide (T = c) || (decide (T = "TongueError") || decide (T = "ValueError"))
/-- an error of the class c -/
def er (r w : Int) (q : Str × Bool) : PyData := cond q.2 (errF q.1 r w) (errD q.1)
theorem isG_er (r w : Int) (q : Str × Bool) (T : Str) : pIsG tbl T [er r w q] = (tbl q.1 T).map fun b => .sh (.bool b) := by
  obtain ⟨c, b⟩ := q
  cases b <;> rfl
def tblOk : Bool := NB0.all fun q => NM2.all fun T => decide (tbl q.1 T = some (bb q.1 T))
theorem tbl_ok : tblOk = true := by decide +kernel
theorem tbl_at {q : Str × Bool} {T : Str} (hq : q ∈ NB0) (hT : T ∈ NM2) : tbl q.1 T = some (bb q.1 T) := of_decide_eq_true (List.all_eq_true.mp (List.all_eq_true.mp tbl_ok q hq) T hT)
theorem is_at {r w : Int} {q : Str × Bool} {T : Str} (hq : q ∈ NB0) (hT : T ∈ NM2) : pIsG tbl T [er r w q] = some (.sh (.bool (bb q.1 T))) := by
  rw [isG_er, tbl_at hq hT]; rfl
def rowsOk : Bool := (List.range 26).all fun i => match NB[i]? with
  | some q => decide (NM.map (bb q.1) = (List.range 26).map fun k : Nat => decide ((k : Int) = (i : Int)))
  | none => true
theorem rows_ok : rowsOk = true := by decide +kernel
theorem row_at {i : Nat} {q : Str × Bool} (hi : i < 26) (h : NB[i]? = some q) : NM.map (bb q.1) = (List.range 26).map fun k : Nat => decide ((k : Int) = (i : Int)) := by
  have z := List.all_eq_true.mp rows_ok i (List.mem_range.mpr hi)
  rw [h] at z
  exact of_decide_eq_true z
theorem base_row : NM.map (bb "TongueError") = List.replicate 26 false := by decide +kernel
theorem t_BadBook_BadBook : tbl "BadBook" "BadBook" = some true := by decide +kernel
theorem t_BadText_BadBook : tbl "BadText" "BadBook" = some false := by decide +kernel
theorem t_BadText_BadText : tbl "BadText" "BadText" = some true := by decide +kernel
theorem t_BadSide_BadBook : tbl "BadSide" "BadBook" = some false := by decide +kernel
theorem t_BadSide_BadText : tbl "BadSide" "BadText" = some false := by decide +kernel
theorem t_BadSide_BadSide : tbl "BadSide" "BadSide" = some true := by decide +kernel
theorem t_BadNumber_BadBook : tbl "BadNumber" "BadBook" = some false := by decide +kernel
theorem t_BadNumber_BadText : tbl "BadNumber" "BadText" = some false := by decide +kernel
theorem t_BadNumber_BadSide : tbl "BadNumber" "BadSide" = some false := by decide +kernel
theorem t_BadNumber_BadNumber : tbl "BadNumber" "BadNumber" = some true := by decide +kernel
theorem t_BadName_BadBook : tbl "BadName" "BadBook" = some false := by decide +kernel
theorem t_BadName_BadText : tbl "BadName" "BadText" = some false := by decide +kernel
theorem t_BadName_BadSide : tbl "BadName" "BadSide" = some false := by decide +kernel
theorem t_BadName_BadNumber : tbl "BadName" "BadNumber" = some false := by decide +kernel
theorem t_BadName_BadName : tbl "BadName" "BadName" = some true := by decide +kernel
theorem t_TooMany_BadBook : tbl "TooMany" "BadBook" = some false := by decide +kernel
theorem t_TooMany_BadText : tbl "TooMany" "BadText" = some false := by decide +kernel
theorem t_TooMany_BadSide : tbl "TooMany" "BadSide" = some false := by decide +kernel
theorem t_TooMany_BadNumber : tbl "TooMany" "BadNumber" = some false := by decide +kernel
theorem t_TooMany_BadName : tbl "TooMany" "BadName" = some false := by decide +kernel
theorem t_TooMany_TooMany : tbl "TooMany" "TooMany" = some true := by decide +kernel
theorem flags_ok (e : PyData) (f : Str → Bool) (h : ∀ T ∈ NM, pIsG tbl T [e] = some (.sh (.bool (f T)))) : F__law_flags [.sh e] = .ret (.ow (.list ((NM.map f).map .bool))) [none, none] := by
  have h0 := h "BadBook" (by decide +kernel)
  have h1 := h "BadText" (by decide +kernel)
  have h2 := h "BadSide" (by decide +kernel)
  have h3 := h "BadRows" (by decide +kernel)
  have h4 := h "BadNumber" (by decide +kernel)
  have h5 := h "BadName" (by decide +kernel)
  have h6 := h "BadForm" (by decide +kernel)
  have h7 := h "BadWord" (by decide +kernel)
  have h8 := h "BadReading" (by decide +kernel)
  have h9 := h "BadPaper" (by decide +kernel)
  have h10 := h "BadCount" (by decide +kernel)
  have h11 := h "BadLinks" (by decide +kernel)
  have h12 := h "NoPair" (by decide +kernel)
  have h13 := h "BadPlace" (by decide +kernel)
  have h14 := h "BadOrder" (by decide +kernel)
  have h15 := h "BadWorld" (by decide +kernel)
  have h16 := h "BadTerm" (by decide +kernel)
  have h17 := h "BadKind" (by decide +kernel)
  have h18 := h "BadNumbers" (by decide +kernel)
  have h19 := h "BadExamples" (by decide +kernel)
  have h20 := h "BadRule" (by decide +kernel)
  have h21 := h "Needed" (by decide +kernel)
  have h22 := h "NothingToUndo" (by decide +kernel)
  have h23 := h "Full" (by decide +kernel)
  have h24 := h "BadCommand" (by decide +kernel)
  have h25 := h "TooMany" (by decide +kernel)
  simp! [F__law_flags, ev__law_flags, h0, h1, h2, h3, h4, h5, h6, h7, h8, h9, h10, h11, h12, h13, h14, h15, h16, h17, h18, h19, h20, h21, h22, h23, h24, h25, NM]
theorem shp_bls (l : List Bool) : shp (.list (l.map .bool)) = true := by
  have sh : ∀ l : List Bool, PyData.canLayAll0 (l.map .bool) = true ∧ PyData.depthAll (l.map .bool) ≤ 1 := by
    intro l
    induction l with
    | nil => simp [PyData.canLayAll0, PyData.depthAll]
    | cons b l ih => simp [PyData.canLayAll0, PyData.depthAll, PyData.canLay0, PyData.depth, ih]
  have := (sh l).1
  have := (sh l).2
  simp [shp, SeqAt.shaped, PyData.canLay0, PyData.depth, *]
  try omega
theorem in_bls (c : Bool) (l : List Bool) : fInX false (.bool c) (.list (l.map .bool)) = some (.sh (.bool (l.any fun b => b == c))) := by
  have e : signIn (.bool c) (.list (l.map .bool)) = none := rfl
  unfold fInX
  rw [e]
  dsimp only [seqD]
  rw [shp_bool, shp_bls]
  simp only [Bool.and_self, if_true, Bool.false_xor, List.any_map]
  congr 4
theorem ne_ints4 (r w : Int) : fNeX (.list [.int r, .int w, .int r, .int w]) (.list [.int r, .int w, .int r, .int w]) = some (.sh (.bool false)) := by
  have e : fNeX (.list [.int r, .int w, .int r, .int w]) (.list [.int r, .int w, .int r, .int w]) = fNe (.list [.int r, .int w, .int r, .int w]) (.list [.int r, .int w, .int r, .int w]) := rfl
  have s2 : shp (.list [.int r, .int w, .int r, .int w]) = true := by
    simp [shp, SeqAt.shaped, PyData.canLay0, PyData.depth, PyData.canLayAll0, PyData.depthAll]
  have e2 : PyData.eqv (.list [.int r, .int w, .int r, .int w]) (.list [.int r, .int w, .int r, .int w]) = true := by
    simp only [PyData.eqv, PyData.eqvAll, beq_self_eq_true, Bool.and_self]
  rw [e]
  simp only [fNe, s2, e2, Bool.and_self, if_true, Bool.not_true]
theorem ne_bls (l : List Bool) : fNeX (.list (l.map .bool)) (.list (l.map .bool)) = some (.sh (.bool false)) := by
  have sh : ∀ l : List Bool, PyData.canLayAll0 (l.map .bool) = true ∧ PyData.depthAll (l.map .bool) ≤ 1 := by
    intro l
    induction l with
    | nil => simp [PyData.canLayAll0, PyData.depthAll]
    | cons b l ih => simp [PyData.canLayAll0, PyData.depthAll, PyData.canLay0, PyData.depth, ih]
  have eqB : ∀ l : List Bool, PyData.eqvAll (l.map .bool) (l.map .bool) = true := by
    intro l
    induction l with
    | nil => simp [PyData.eqvAll]
    | cons b l ih => simp [PyData.eqvAll, PyData.eqv, ih]
  have e : fNeX (.list (l.map .bool)) (.list (l.map .bool)) = fNe (.list (l.map .bool)) (.list (l.map .bool)) := rfl
  have s2 : shp (.list (l.map .bool)) = true := by
    have := (sh l).1
    have := (sh l).2
    simp [shp, SeqAt.shaped, PyData.canLay0, PyData.depth, *]
    try omega
  have e2 : PyData.eqv (.list (l.map .bool)) (.list (l.map .bool)) = true := by
    have := eqB l
    simp only [PyData.eqv, this]
  rw [e]
  simp only [fNe, s2, e2, Bool.and_self, if_true, Bool.not_true]
theorem body_ok (s x1 x2 x3 x4 : PyData) (M : List PyData) (hM : M.length = 26) {r w : Int} {i : Nat} {q : Str × Bool} (hi : i < 26) (hq : NB[i]? = some q) :
    b_law_1 [some (.sh s), some (.sh x1), some (.sh x2), some (.sh x3), some (.sh x4), some (.lk (.list M)), some (.sh (.int (i : Int))), some (.sh (er r w q)), none, none, none] =
      .next [some (.sh s), some (.sh x1), some (.sh x2), some (.sh x3), some (.sh x4), some (.lk (.list M)), some (.sh (.int (i : Int))), some (.sh (er r w q)), none, none, none] := by
  have hm : q ∈ NB0 := List.mem_cons_of_mem _ (List.mem_of_getElem? hq)
  have tT := is_at (r := r) (w := w) hm (T := "TongueError") (List.mem_cons_self)
  have tV := is_at (r := r) (w := w) hm (T := "ValueError") (List.mem_cons_of_mem _ List.mem_cons_self)
  have bT : bb q.1 "TongueError" = true := by simp [bb]
  have bV : bb q.1 "ValueError" = true := by simp [bb]
  rw [bT] at tT
  rw [bV] at tV
  have fl := flags_ok (er r w q) (bb q.1) fun T hT => is_at hm (List.mem_cons_of_mem _ (List.mem_cons_of_mem _ hT))
  rw [row_at hi hq] at fl
  have k1 : kRange1 [.int ((26 : Nat) : Int)] = some ((List.range 26).map fun i : Nat => .int (i : Int)) := by
    have := kR1 (n := 26) (by omega)
    rw [rgI_map0] at this
    exact this
  have e2 : ∀ y7, evLc [.ex (evPm pLen [.pl 5])] kRange1 (.nm 8) [8] (tvYes) (evPm (pm2 fEqX) [.pl 8, .pl 6]) [some (.sh s), some (.sh x1), some (.sh x2), some (.sh x3), some (.sh x4), some (.lk (.list M)), some (.sh (.int (i : Int))), some (.sh y7), none, none, none] =
      .ok (.ow (.list (((List.range 26).map fun k : Nat => decide ((k : Int) = (i : Int))).map .bool))) [some (.sh s), some (.sh x1), some (.sh x2), some (.sh x3), some (.sh x4), some (.lk (.list M)), some (.sh (.int (i : Int))), some (.sh y7), none, none, none] := by
    intro y7
    have z := evLc_map (os := [.ex (evPm pLen [.pl 5])]) (mk := kRange1) (t := .nm 8) (vs := [8]) (te := evPm (pm2 fEqX) [.pl 8, .pl 6]) (fun d => match d with
      | .int k => .bool (decide (k = (i : Int)))
      | d => d) (ρ := [some (.sh s), some (.sh x1), some (.sh x2), some (.sh x3), some (.sh x4), some (.lk (.list M)), some (.sh (.int (i : Int))), some (.sh y7), none, none, none]) (ρ1 := [some (.sh s), some (.sh x1), some (.sh x2), some (.sh x3), some (.sh x4), some (.lk (.list M)), some (.sh (.int (i : Int))), some (.sh y7), none, none, none]) (ρ2 := [some (.sh s), some (.sh x1), some (.sh x2), some (.sh x3), some (.sh x4), some (.lk (.list M)), some (.sh (.int (i : Int))), some (.sh y7), none, none, none]) (ρ3 := [some (.sh s), some (.sh x1), some (.sh x2), some (.sh x3), some (.sh x4), some (.lk (.list M)), some (.sh (.int (i : Int))), some (.sh y7), none, none, none])
      (as := [.sh (.int ((26 : Nat) : Int))]) (ds := [.int ((26 : Nat) : Int)]) (by simp! [hM]) (by rfl) k1 (by rfl) (by simp) rfl (fun d hd => by
        obtain ⟨k, _, rfl⟩ := List.mem_map.mp hd
        refine ⟨[some (.sh s), some (.sh x1), some (.sh x2), some (.sh x3), some (.sh x4), some (.lk (.list M)), some (.sh (.int (i : Int))), some (.sh y7), some (.sh (.int (k : Int))), none, none], rfl, .sh (.bool (decide ((k : Int) = (i : Int)))), [some (.sh s), some (.sh x1), some (.sh x2), some (.sh x3), some (.sh x4), some (.lk (.list M)), some (.sh (.int (i : Int))), some (.sh y7), some (.sh (.int (k : Int))), none, none], by simp! [], rfl, rfl⟩) rfl
    rw [z]
    simp only [List.map_map]
    rfl
  have e3 := ne_bls ((List.range 26).map fun k : Nat => decide ((k : Int) = (i : Int)))
  have e2' := e2 (er r w q)
  clear e2
  generalize ((List.range 26).map fun k : Nat => decide ((k : Int) = (i : Int))).map PyData.bool = l at fl e2' e3 ⊢
  generalize er r w q = e at fl e2' tT tV ⊢
  simp! [b_law_1, tT, tV, fl, e2', e3]
def lenOk : Bool := (List.range 1000).all fun k => decide (("t" : Str).length + (Str.ofString (toString (k : Int))).length ≤ 16777216)
theorem len_ok : lenOk = true := by decide +kernel
theorem notin25 : fInX true (.int 25) (.list [.int 0, .int 1, .int 2, .int 4, .int 5]) = some (.sh (.bool true)) := by
  have e : signIn (.int 25) (.list [.int 0, .int 1, .int 2, .int 4, .int 5]) = none := rfl
  have s2 : shp (.list [.int 0, .int 1, .int 2, .int 4, .int 5]) = true := by
    simp [shp, SeqAt.shaped, PyData.canLay0, PyData.depth, PyData.canLayAll0, PyData.depthAll]
  unfold fInX
  rw [e]
  dsimp only [seqD]
  rw [shp_int, s2]
  simp [PyData.eqv]
def cg : List Int := [0, 1, 2, 4, 5, 25]
theorem caught_ok (t : Str) (k : Int) (h : k ∈ cg) : F__law_is_caught [.sh (.int k), .sh (.str t)] = .ret (.sh (.bool true)) [none, none] := by
  simp only [cg, List.mem_cons, List.not_mem_nil, or_false] at h
  rcases h with rfl | rfl | rfl | rfl | rfl | rfl <;> simp! [F__law_is_caught, ev__law_is_caught, evTryM, goM, sRaiseE, pTell1, notin25, t_BadBook_BadBook, t_BadText_BadBook, t_BadText_BadText, t_BadSide_BadBook, t_BadSide_BadText, t_BadSide_BadSide, t_BadNumber_BadBook, t_BadNumber_BadText, t_BadNumber_BadSide, t_BadNumber_BadNumber, t_BadName_BadBook, t_BadName_BadText, t_BadName_BadSide, t_BadName_BadNumber, t_BadName_BadName, t_TooMany_BadBook, t_TooMany_BadText, t_TooMany_BadSide, t_TooMany_BadNumber, t_TooMany_BadName, t_TooMany_TooMany]
def ShN (x : Option Sl) : Prop := x = none ∨ ∃ d, x = some (.sh d)
theorem ShN.free {x : Option Sl} (h : ShN x) : Sl.free x = true := by rcases h with rfl | ⟨d, rfl⟩ <;> rfl
abbrev LW0 (s : PyData) : Ev.Env := [some (.sh s), none, none, none, none, none, none, none, none, none, none]
abbrev LW (s : PyData) (n : Int) (t : Str) (r w : Int) (x5 x6 x7 x9 x10 : Option Sl) : Ev.Env := [some (.sh s), some (.sh (.int n)), some (.sh (.str t)), some (.sh (.int r)), some (.sh (.int w)), x5, x6, x7, none, x9, x10]
theorem law_true (ns : List Int) (hl : ns.length ≤ 63) (hb : ∀ z ∈ ns, Builtin.Int.intBits z ≤ 1048576) : ∃ r, F_law [.sh (.list (ns.map .int))] = .ret (.sh (.bool true)) r := by
  have c1 : cutD (ns.map PyData.int) none (some 1) = (ns.take 1).map PyData.int := by
    have := cutD_to (ns.map PyData.int) 1
    rw [List.map_take]
    exact this
  have c2 : intsD (List.take 1 (ns.map PyData.int)) = some (ns.take 1) := by rw [← List.map_take]; exact intsD_map _
  have m0 : ∀ x : Int, modB x 1000 = true := fun x => modB_pos (by decide)
  have m1 : ∀ x : Int, modB x 997 = true := fun x => modB_pos (by decide)
  have m2 : ∀ x : Int, modB x 89 = true := fun x => modB_pos (by decide)
  have m3 : ∀ x : Int, divB x 7 = true := fun x => (by decide +kernel : divB 0 7 = true)
  have st : ∀ x : Int, ∃ t : Str, pStrI [.int (x % 1000)] = some (.sh (.str t)) ∧ ("t" : Str).length + t.length ≤ 16777216 := fun x => by
    have h1 : 0 ≤ x % 1000 := Int.emod_nonneg _ (by decide)
    have h2 : x % 1000 < 1000 := Int.emod_lt_of_pos _ (by decide)
    refine ⟨_, if_pos (cdec_of ?_), ?_⟩
    rotate_left
    · have z := of_decide_eq_true (List.all_eq_true.mp len_ok (x % 1000).toNat (List.mem_range.mpr (by omega)))
      rw [Int.toNat_of_nonneg h1] at z
      exact z
    have : (x % 1000).natAbs < 2 ^ 10 := by
      have e : (2 : Nat) ^ 10 = 1024 := by decide
      omega
    by_cases h : (x % 1000).natAbs = 0
    · rw [h]; decide
    · exact Nat.lt_trans ((Nat.log2_lt h).mpr this) (by decide)
  generalize hn : (ns.take 1).sum = n
  obtain ⟨t0, ht0, lt0⟩ := st n
  obtain ⟨t1, et1⟩ : ∃ t1 : Str, t1 = "t" ++ t0 := ⟨_, rfl⟩
  let r : Int := n % 997
  let w : Int := n / 7 % 89
  have hM : (NB.map (er r w)).length = 26 := rfl
  have M3 : (NB.map (er r w))[3]? = some (errF "BadRows" r w) := rfl
  have f1 : pXfd "BadRows" "row" [errF "BadRows" r w] = some (.sh (.int r)) := rfl
  have f2 : pXfd "BadRows" "word" [errF "BadRows" r w] = some (.sh (.int w)) := rfl
  have a3 : L2.atI (NB.map (er r w)) 3 = some (errF "BadRows" r w) := rfl
  -- the rounds
  have lp : ∃ y6 y7 : Option Sl, ShN y6 ∧ ShN y7 ∧ evFor [.pl 5] kEnumS (.tup [.nm 6, .nm 7]) b_law_1 (LW (.list (ns.map .int)) n t1 r w (some (.ow (.list (NB.map (er r w))))) none none none none) = .next (LW (.list (ns.map .int)) n t1 r w (some (.ow (.list (NB.map (er r w))))) y6 y7 none none) := by
    obtain ⟨ρ', go, y6, y7, g6, g7, eρ⟩ := forGo_inv (t := .tup [.nm 6, .nm 7]) (body := b_law_1) (fun _ ρ => ∃ y6 y7 : Option Sl, ShN y6 ∧ ShN y7 ∧ ρ = LW (.list (ns.map .int)) n t1 r w (some (.lk (.list (NB.map (er r w))))) y6 y7 none none) (enumD (NB.map (er r w))) 0
      (LW (.list (ns.map .int)) n t1 r w (some (.lk (.list (NB.map (er r w))))) none none none none) ⟨none, none, .inl rfl, .inl rfl, rfl⟩ fun i d ρ hd ⟨y6, y7, g6, g7, eρ⟩ => by
        subst eρ
        have hi : i < (enumD (NB.map (er r w))).length := (List.getElem?_eq_some_iff.mp hd).1
        rw [enumD_length, List.length_map] at hi
        have hi2 : i < 26 := hi
        have hq : NB[i]? = some NB[i] := List.getElem?_eq_getElem hi
        have hm : (NB.map (er r w))[i]? = some (er r w NB[i]) := by rw [List.getElem?_map, hq]; rfl
        rw [enumD_get hm] at hd
        cases hd
        refine ⟨LW (.list (ns.map .int)) n t1 r w (some (.lk (.list (NB.map (er r w))))) (some (.sh (.int (i : Int)))) (some (.sh (er r w NB[i]))) none none, _, ?_, .inl (body_ok _ _ _ _ _ _ hM hi2 hq), _, _, .inr ⟨_, rfl⟩, .inr ⟨_, rfl⟩, rfl⟩
        simp [bindT, bindTs, putR, Res.sl, g6.free, g7.free]
    subst eρ
    exact ⟨y6, y7, g6, g7, evFor_next (ρ1 := LW (.list (ns.map .int)) n t1 r w (some (.ow (.list (NB.map (er r w))))) none none none none) (ρ2 := LW (.list (ns.map .int)) n t1 r w (some (.lk (.list (NB.map (er r w))))) y6 y7 none none) (as := [.pl 5]) (ds := [.list (NB.map (er r w))]) (items := enumD (NB.map (er r w))) (by rfl) (by rfl) rfl (by exact go) (by rfl)⟩
  obtain ⟨y6, y7, g6, g7, lp⟩ := lp
  have flb : F__law_flags [.sh (errD "TongueError")] = .ret (.ow (.list ((List.replicate 26 false).map .bool))) [none, none] := by
    have z := flags_ok (errD "TongueError") (bb "TongueError") fun T hT => is_at (r := 0) (w := 0) (q := ("TongueError", false)) List.mem_cons_self (List.mem_cons_of_mem _ (List.mem_cons_of_mem _ hT))
    rw [base_row] at z
    exact z
  have isb : pIsG tbl "ValueError" [errD "TongueError"] = some (.sh (.bool true)) := by
    have z := is_at (r := 0) (w := 0) (q := ("TongueError", false)) (T := "ValueError") List.mem_cons_self (List.mem_cons_of_mem _ List.mem_cons_self)
    rw [show bb "TongueError" "ValueError" = true by simp [bb]] at z
    exact z
  have inb := in_bls true (List.replicate 26 false)
  have inc := in_bls false (List.replicate 6 true)
  rw [show ((List.replicate 26 false).any fun b => b == true) = false from rfl] at inb
  rw [show ((List.replicate 6 true).any fun b => b == false) = false from rfl] at inc
  have lc : evLc [.ex (evPm pLst ([evC (.int 0), evC (.int 1), evC (.int 2), evC (.int 4), evC (.int 5), evC (.int 25)].map .ex))] kSeq (.nm 6) [6] (tvYes) (evCall F__law_is_caught [.pl 6, .pl 2]) (LW (.list (ns.map .int)) n t1 r w (some (.ow (.list (NB.map (er r w))))) y6 y7 (some (.sh (errD "TongueError"))) (some (.sh (errF "BadRows" r w)))) =
      .ok (.ow (.list ((List.replicate 6 true).map .bool))) (LW (.list (ns.map .int)) n t1 r w (some (.ow (.list (NB.map (er r w))))) y6 y7 (some (.sh (errD "TongueError"))) (some (.sh (errF "BadRows" r w)))) := by
    have z := evLc_map (os := [.ex (evPm pLst ([evC (.int 0), evC (.int 1), evC (.int 2), evC (.int 4), evC (.int 5), evC (.int 25)].map .ex))]) (mk := kSeq) (t := .nm 6) (vs := [6]) (te := evCall F__law_is_caught [.pl 6, .pl 2]) (fun _ => .bool true)
      (ρ := LW (.list (ns.map .int)) n t1 r w (some (.ow (.list (NB.map (er r w))))) y6 y7 (some (.sh (errD "TongueError"))) (some (.sh (errF "BadRows" r w))))
      (ρ1 := LW (.list (ns.map .int)) n t1 r w (some (.ow (.list (NB.map (er r w))))) y6 y7 (some (.sh (errD "TongueError"))) (some (.sh (errF "BadRows" r w))))
      (ρ2 := LW (.list (ns.map .int)) n t1 r w (some (.ow (.list (NB.map (er r w))))) none y7 (some (.sh (errD "TongueError"))) (some (.sh (errF "BadRows" r w))))
      (ρ3 := LW (.list (ns.map .int)) n t1 r w (some (.ow (.list (NB.map (er r w))))) y6 y7 (some (.sh (errD "TongueError"))) (some (.sh (errF "BadRows" r w))))
      (as := [.sh (.list (cg.map .int))]) (ds := [.list (cg.map .int)]) (items := cg.map .int) (by simp! [cg]) (by rfl) rfl (by rcases g6 with rfl | ⟨d, rfl⟩ <;> rfl) (by simp [cg]) rfl (fun d hd => by
        obtain ⟨k, hk, rfl⟩ := List.mem_map.mp hd
        have ck := caught_ok t1 k hk
        exact ⟨LW (.list (ns.map .int)) n t1 r w (some (.ow (.list (NB.map (er r w))))) (some (.sh (.int k))) y7 (some (.sh (errD "TongueError"))) (some (.sh (errF "BadRows" r w))), rfl, .sh (.bool true), LW (.list (ns.map .int)) n t1 r w (some (.ow (.list (NB.map (er r w))))) (some (.sh (.int k))) y7 (some (.sh (errD "TongueError"))) (some (.sh (errF "BadRows" r w))), by simp! [ck], rfl, rfl⟩) (by rcases g6 with rfl | ⟨d, rfl⟩ <;> rfl)
    exact z
  have bc : F__law_is_base_caught [.sh (.int r), .sh (.int w)] = .ret (.sh (.bool true)) [none, none, none] := by simp! [F__law_is_base_caught, ev__law_is_base_caught, evBaseC]
  have ms : NB.map (er r w) = [errD "BadBook", errD "BadText", errD "BadSide", errF "BadRows" r w, errD "BadNumber", errD "BadName", errD "BadForm", errD "BadWord", errD "BadReading", errD "BadPaper", errD "BadCount", errD "BadLinks", errD "NoPair", errD "BadPlace", errD "BadOrder", errD "BadWorld", errD "BadTerm", errD "BadKind", errD "BadNumbers", errD "BadExamples", errD "BadRule", errD "Needed", errD "NothingToUndo", errD "Full", errD "BadCommand", errD "TooMany"] := rfl
  have key : ev_law (LW0 (.list (ns.map .int))) = .ret (.sh (.bool true)) (LW (.list (ns.map .int)) n t1 r w (some (.ow (.list (NB.map (er r w))))) y6 y7 (some (.sh (errD "TongueError"))) (some (.sh (errF "BadRows" r w)))) := by
    unfold ev_law
    rw [sSeq_next (ρ1 := [some (.sh (.list (ns.map .int))), some (.sh (.int n)), none, none, none, none, none, none, none, none, none]) (by simp! [LW0, pSl01, slF, c1, pSum, c2, hn])]
    rw [sSeq_next (ρ1 := LW (.list (ns.map .int)) n t1 r w none none none none none) (by simp! [m0, m1, m2, m3, ht0, lt0, et1]; exact ⟨rfl, rfl⟩)]
    rw [sSeq_next (ρ1 := LW (.list (ns.map .int)) n t1 r w (some (.ow (.list ((NB.map (er r w)).take 7)))) none none none none) (by rw [ms]; simp! [pErr, pBrs])]
    rw [sSeq_next (ρ1 := LW (.list (ns.map .int)) n t1 r w (some (.ow (.list ((NB.map (er r w)).take 14)))) none none none none) (by rw [ms]; simp! [pErr, pBrs])]
    rw [sSeq_next (ρ1 := LW (.list (ns.map .int)) n t1 r w (some (.ow (.list ((NB.map (er r w)).take 20)))) none none none none) (by rw [ms]; simp! [pErr, pBrs])]
    rw [sSeq_next (ρ1 := LW (.list (ns.map .int)) n t1 r w (some (.ow (.list (NB.map (er r w))))) none none none none) (by rw [ms]; simp! [pErr, pBrs])]
    clear ms
    rw [sSeq_next lp]
    clear lp
    generalize NB.map (er r w) = M at *
    rw [sSeq_next (ρ1 := LW (.list (ns.map .int)) n t1 r w (some (.ow (.list M))) y6 y7 (some (.sh (errD "TongueError"))) (some (.sh (errF "BadRows" r w)))) (by simp! [pErr, pBrsK])]
    generalize errD "TongueError" = eb at *
    generalize errF "BadRows" r w = eo at *
    rw [sSeq_next (ρ1 := LW (.list (ns.map .int)) n t1 r w (some (.ow (.list M))) y6 y7 (some (.sh eb)) (some (.sh eo))) (by
      generalize (List.replicate 26 false).map PyData.bool = l at flb inb
      simp! [flb, inb, isb])]
    rw [sSeq_next (ρ1 := LW (.list (ns.map .int)) n t1 r w (some (.ow (.list M))) y6 y7 (some (.sh eb)) (some (.sh eo))) (by simp! [a3, f1, f2, ne_ints4])]
    rw [sSeq_next (ρ1 := LW (.list (ns.map .int)) n t1 r w (some (.ow (.list M))) y6 y7 (some (.sh eb)) (some (.sh eo))) (by
      generalize (List.replicate 6 true).map PyData.bool = l at lc inc
      simp only [List.map_cons, List.map_nil] at lc
      simp! [lc, inc])]
    simp! [bc]
  refine ⟨trimE (LW (.list (ns.map .int)) n t1 r w (some (.ow (.list (NB.map (er r w))))) y6 y7 (some (.sh (errD "TongueError"))) (some (.sh (errF "BadRows" r w)))), ?_⟩
  unfold F_law mkF
  show trimO (ev_law (LW0 (.list (ns.map .int)))) = _
  rw [key]
  rfl
end
end L00
set_option Elab.async false
set_option linter.all false
set_option autoImplicit false
set_option maxRecDepth 100000
set_option maxHeartbeats 0
open PySem PySem.W PySem.Calls
open PyProof.Rows hiding St
theorem PySem.Challenge.cw_pairedtongues_k00_error_classes_holds : PySem.Challenge.rw_pairedtongues_k00_error_classes.Holds := by
  w_on; o_law
  refine HandSHeadRun.head_any (r := L00.R) (q := view L00.R.prog [32]) (H := L00.hk) (ob := L00.ob) (M := 9000) (loose := L00.loose) (d := HandSHeadRun.topDef L00.R.prog 32) (kwd := []) L00.ob_eq
    (by kernel_rfl) (fun s => by kernel_rfl) L00.run (by kernel_rfl) (by kernel_rfl) (by kernel_rfl) (by rfl) (by first | assumption | decide +kernel) (by decide +kernel) ⟨rfl, rfl, rfl, rfl, rfl, by decide +kernel⟩ ?hw ?hc
  case hw => w_witness2
  case hc =>
    refine Ev.walk_ofG (l := PySem.Challenge.rw_pairedtongues_k00_error_classes) (n := 63) (k := 2) (x := "_law_script") (CX := fun w => L2.CX (PySem.Challenge.rw_pairedtongues_k00_error_classes).prog w) rfl (by decide) (by kernel_rfl) ⟨rfl, by decide, by decide⟩ ?F (fun _ _ _ _ _ z => Ev.cx_none z)
    intro w mg f h Y G hmg0
    obtain ⟨K, KX, c, x2, bw⟩ := Y
    have x := (Bool.and_eq_true_iff.mp x2).1
    have x3 := (Bool.and_eq_true_iff.mp (Bool.and_eq_true_iff.mp x2).2).1
    have nT : Ev.theT K = none := Option.isNone_iff_eq_none.mp (Bool.and_eq_true_iff.mp (Bool.and_eq_true_iff.mp x2).2).2
    have br : PySem.BR.Txt (PySem.Challenge.rw_pairedtongues_k00_error_classes).prog K (Ev.brC K) (Ev.brI K) := Ev.brB_ok (pf := L00.pf) (b := L00.brP) x3 bw (by rfl) (by rfl) (by decide +kernel)
    have hmg : mg ("law" : PySem.Str) = some (.ref f) := by
      have e : (HandSHeadRun.topDef L00.R.prog 32).name = ("law" : PySem.Str) := by kernel_rfl
      rw [← e]
      exact hmg0
    have gk := L00.gk KX G c x (w := w) br
    have e := hmg.symm.trans gk.g_law
    cases e
    obtain ⟨fd, Fd⟩ := c.def_ 3 (d := L00.d3) rfl
    have b := L2.FunD.bindsA (ps := ["_law_script"]) Fd fun _ _ _ _ _ _ us hl => match us, hl with | [_], _ => rfl
    refine ⟨K, fd, Ev.spV ⟨K, (PySem.Challenge.rw_pairedtongues_k00_error_classes).prog, w⟩ 1 10 L00.F_law, KX, fun s v => b s [v] rfl, fun H a ns hl hb hO hS => ?_, fun base _ _ => ?_⟩
    · obtain ⟨r, hr⟩ := L00.law_true ns hl hb
      exact Ev.law_sp (Ev.tabsI_no nT hO) hS hr
    · exact L00.fn_law (P := (PySem.Challenge.rw_pairedtongues_k00_error_classes).prog) (w := w) (base := base) gk c True.intro Fd
